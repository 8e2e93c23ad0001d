import PyProof.Rows.All
import HandS.ForMost
import KE.KDictDisplayH
import HandS.TupSets
import PyProof.MinMaxWalk
import HandS.Style
import HandS.TupAny
import KE.KRevSl
import HandS.Deep
import PyProof.P3In
import HandS.Walk
import KE.GoesEnum
import HandS.IsInst
import HandS.Conv
import PySem.Challenge.RW_stronggens_k86_whole_sets_listed
import HandS.Codes
set_option Elab.async false
set_option linter.all false
set_option maxRecDepth 100000
set_option maxHeartbeats 4000000
section
namespace KM
/-! ### plain lists: pigeonhole, permutations of lists -/
theorem count_le_of_nodup_subset {α : Type} [DecidableEq α] : ∀ (a b : List α), a.Nodup → (∀ x ∈ a, x ∈ b) → a.length ≤ b.length
  | [], b, _, _ => Nat.zero_le _
  | x :: a, b, hn, hs => by
    have hx : x ∈ b := hs x List.mem_cons_self
    have hp := List.perm_cons_erase hx
    have hn' := List.nodup_cons.mp hn
    have ih := count_le_of_nodup_subset a (b.erase x) hn'.2 (fun y hy => by
      have hne : y ≠ x := fun e => hn'.1 (e ▸ hy)
      exact (List.mem_erase_of_ne hne).mpr (hs y (List.mem_cons_of_mem _ hy)))
    rw [hp.length_eq, List.length_cons, List.length_cons]
    omega
theorem perm_of_nodup_subset {α : Type} [DecidableEq α] : ∀ (a b : List α), a.Nodup → (∀ x ∈ a, x ∈ b) → b.length ≤ a.length → a.Perm b
  | [], b, _, _, hl => by
    have : b = [] := List.eq_nil_of_length_eq_zero (by simpa using hl)
    rw [this]
  | x :: a, b, hn, hs, hl => by
    have hx : x ∈ b := hs x List.mem_cons_self
    have hp := List.perm_cons_erase hx
    have hn' := List.nodup_cons.mp hn
    refine List.Perm.trans (List.Perm.cons x ?_) hp.symm
    refine perm_of_nodup_subset a (b.erase x) hn'.2 (fun y hy => ?_) ?_
    · have hne : y ≠ x := fun e => hn'.1 (e ▸ hy)
      exact (List.mem_erase_of_ne hne).mpr (hs y (List.mem_cons_of_mem _ hy))
    · have := hp.length_eq
      rw [List.length_cons] at this
      rw [List.length_cons] at hl
      omega
theorem nodup_map_of_inj {α β : Type} {f : α → β} : ∀ {l : List α}, l.Nodup → (∀ x ∈ l, ∀ y ∈ l, f x = f y → x = y) → (l.map f).Nodup
  | [], _, _ => List.nodup_nil
  | x :: l, hn, hi => by
    have hn' := List.nodup_cons.mp hn
    rw [List.map_cons]
    refine List.nodup_cons.mpr ⟨fun hm => ?_, nodup_map_of_inj hn'.2 fun a ha b hb => hi a (List.mem_cons_of_mem _ ha) b (List.mem_cons_of_mem _ hb)⟩
    obtain ⟨y, hy, e⟩ := List.mem_map.mp hm
    have := hi y (List.mem_cons_of_mem _ hy) x List.mem_cons_self e
    exact hn'.1 (this ▸ hy)
/-- an injective map of a finite list into itself is onto -/
theorem map_perm_of_inj {α : Type} [DecidableEq α] {f : α → α} {l : List α} (hn : l.Nodup) (hi : ∀ x ∈ l, ∀ y ∈ l, f x = f y → x = y) (hf : ∀ x ∈ l, f x ∈ l) : (l.map f).Perm l :=
  perm_of_nodup_subset _ _ (nodup_map_of_inj hn hi) (fun x hx => by
    obtain ⟨y, hy, e⟩ := List.mem_map.mp hx
    exact e ▸ hf y hy) (by simp)

theorem nodup_inj {α : Type} : ∀ {l : List α}, l.Nodup → ∀ {i j : Nat} (hi : i < l.length) (hj : j < l.length), l[i] = l[j] → i = j
  | [], _, i, _, hi, _, _ => absurd hi (Nat.not_lt_zero _)
  | x :: l, hn, 0, 0, _, _, _ => rfl
  | x :: l, hn, 0, j + 1, _, hj, e => absurd (show x ∈ l from (show x = l[j]'(Nat.lt_of_succ_lt_succ hj) from e) ▸ List.getElem_mem _) (List.nodup_cons.mp hn).1
  | x :: l, hn, i + 1, 0, hi, _, e => absurd (show x ∈ l from (show l[i]'(Nat.lt_of_succ_lt_succ hi) = x from e) ▸ List.getElem_mem _) (List.nodup_cons.mp hn).1
  | x :: l, hn, i + 1, j + 1, hi, hj, e => congrArg (· + 1) (nodup_inj (List.nodup_cons.mp hn).2 (Nat.lt_of_succ_lt_succ hi) (Nat.lt_of_succ_lt_succ hj) e)
/-! ### points, permutations -/
def app (p : List Nat) (x : Nat) : Nat := p.getD x 0
def mul (p q : List Nat) : List Nat := p.map (app q)
abbrev unit (n : Nat) : List Nat := List.range n
structure IsPerm (n : Nat) (p : List Nat) : Prop where
  len : p.length = n
  bd : ∀ x ∈ p, x < n
  nd : p.Nodup
theorem app_eq {p : List Nat} {x : Nat} (h : x < p.length) : app p x = p[x] := by
  unfold app
  rw [List.getD_eq_getElem?_getD, List.getElem?_eq_getElem h]
  rfl
theorem app_get {p : List Nat} {x : Nat} (h : x < p.length) : p[x]? = some (app p x) := by
  rw [app_eq h]
  exact List.getElem?_eq_getElem h
theorem IsPerm.lt {n : Nat} {p : List Nat} (P : IsPerm n p) {x : Nat} (h : x < n) : app p x < n := by
  rw [app_eq (by rw [P.len]; exact h)]
  exact P.bd _ (List.getElem_mem _)
theorem IsPerm.inj {n : Nat} {p : List Nat} (P : IsPerm n p) {x y : Nat} (hx : x < n) (hy : y < n) (e : app p x = app p y) : x = y := by
  rw [app_eq (by rw [P.len]; exact hx), app_eq (by rw [P.len]; exact hy)] at e
  exact nodup_inj P.nd _ _ e
theorem isPerm_unit (n : Nat) : IsPerm n (unit n) := ⟨List.length_range, fun x h => List.mem_range.mp h, List.nodup_range⟩
theorem app_unit {n x : Nat} (h : x < n) : app (unit n) x = x := by
  rw [app_eq (by rw [List.length_range]; exact h)]
  exact List.getElem_range _
theorem app_mul {n : Nat} {p q : List Nat} (P : IsPerm n p) {x : Nat} (h : x < n) : app (mul p q) x = app q (app p x) := by
  have h' : x < p.length := by rw [P.len]; exact h
  have h2 : x < (mul p q).length := by unfold mul; rw [List.length_map]; exact h'
  rw [app_eq h2, app_eq h']
  exact List.getElem_map _
theorem IsPerm.mul {n : Nat} {p q : List Nat} (P : IsPerm n p) (Q : IsPerm n q) : IsPerm n (mul p q) := by
  refine ⟨by unfold KM.mul; rw [List.length_map, P.len], fun x hx => ?_, ?_⟩
  · obtain ⟨y, hy, rfl⟩ := List.mem_map.mp hx
    exact Q.lt (P.bd y hy)
  · exact nodup_map_of_inj P.nd fun a ha b hb e => Q.inj (P.bd a ha) (P.bd b hb) e
theorem perm_ext {n : Nat} {p q : List Nat} (hp : p.length = n) (hq : q.length = n) (h : ∀ x, x < n → app p x = app q x) : p = q := by
  refine List.ext_getElem (by rw [hp, hq]) fun i h1 h2 => ?_
  have := h i (by omega)
  rwa [app_eq h1, app_eq h2] at this
theorem mul_assoc {n : Nat} {p q r : List Nat} (P : IsPerm n p) (Q : IsPerm n q) (R : IsPerm n r) : mul (mul p q) r = mul p (mul q r) := by
  refine perm_ext ((P.mul Q).mul R).len (P.mul (Q.mul R)).len fun x hx => ?_
  rw [app_mul (P.mul Q) hx, app_mul P hx, app_mul P hx, app_mul Q (P.lt hx)]
theorem mul_unit {n : Nat} {p : List Nat} (P : IsPerm n p) : mul p (unit n) = p :=
  perm_ext (P.mul (isPerm_unit n)).len P.len fun x hx => by rw [app_mul P hx, app_unit (P.lt hx)]
theorem unit_mul {n : Nat} {p : List Nat} (P : IsPerm n p) : mul (unit n) p = p :=
  perm_ext ((isPerm_unit n).mul P).len P.len fun x hx => by rw [app_mul (isPerm_unit n) hx, app_unit hx]
/-- a permutation meets each point -/
theorem IsPerm.onto {n : Nat} {p : List Nat} (P : IsPerm n p) {y : Nat} (h : y < n) : y ∈ p :=
  (perm_of_nodup_subset p (unit n) P.nd (fun x hx => List.mem_range.mpr (P.bd x hx)) (by rw [P.len, List.length_range]; exact Nat.le_refl _)).mem_iff.mpr (List.mem_range.mpr h)
theorem IsPerm.pre {n : Nat} {p : List Nat} (P : IsPerm n p) {y : Nat} (h : y < n) : ∃ x, x < n ∧ app p x = y := by
  obtain ⟨i, hi, e⟩ := List.getElem_of_mem (P.onto h)
  exact ⟨i, by rw [← P.len]; exact hi, by rw [app_eq hi]; exact e⟩
/-- left cancellation -/
theorem mul_left_cancel {n : Nat} {p q r : List Nat} (P : IsPerm n p) (Q : IsPerm n q) (R : IsPerm n r) (e : mul p q = mul p r) : q = r := by
  refine perm_ext Q.len R.len fun y hy => ?_
  obtain ⟨x, hx, rfl⟩ := P.pre hy
  rw [← app_mul P hx, ← app_mul P hx, e]

/-! ### sorting by insertion; order of lists -/
def ins (x : Nat) : List Nat → List Nat
  | [] => [x]
  | y :: l => if x < y then x :: y :: l else y :: ins x l
def isort : List Nat → List Nat
  | [] => []
  | x :: l => ins x (isort l)
theorem ins_perm (x : Nat) : ∀ l : List Nat, (ins x l).Perm (x :: l)
  | [] => List.Perm.refl _
  | y :: l => by
    unfold ins
    split
    · exact List.Perm.refl _
    · exact ((ins_perm x l).cons y).trans (List.Perm.swap x y l)
theorem isort_perm : ∀ l : List Nat, (isort l).Perm l
  | [] => List.Perm.refl _
  | x :: l => (ins_perm x _).trans ((isort_perm l).cons x)
abbrev Asc (l : List Nat) : Prop := l.Pairwise (· ≤ ·)
theorem ins_asc (x : Nat) : ∀ l : List Nat, Asc l → Asc (ins x l)
  | [], _ => by simp [ins]
  | y :: l, h => by
    have h' := List.pairwise_cons.mp h
    unfold ins
    split
    · rename_i hxy
      refine List.pairwise_cons.mpr ⟨fun z hz => ?_, h⟩
      rcases List.mem_cons.mp hz with rfl | hz
      · exact Nat.le_of_lt hxy
      · exact Nat.le_trans (Nat.le_of_lt hxy) (h'.1 z hz)
    · rename_i hxy
      refine List.pairwise_cons.mpr ⟨fun z hz => ?_, ins_asc x l h'.2⟩
      rcases List.mem_cons.mp ((ins_perm x l).mem_iff.mp hz) with rfl | hz
      · omega
      · exact h'.1 z hz
theorem isort_asc : ∀ l : List Nat, Asc (isort l)
  | [] => List.Pairwise.nil
  | x :: l => ins_asc x _ (isort_asc l)
theorem asc_unique : ∀ {a b : List Nat}, a.Perm b → Asc a → Asc b → a = b
  | [], b, h, _, _ => by rw [List.nil_perm.mp h]
  | x :: a, [], h, _, _ => by
    have := h.length_eq
    simp at this
  | x :: a, y :: b, h, ha, hb => by
    have ha' := List.pairwise_cons.mp ha
    have hb' := List.pairwise_cons.mp hb
    have e : x = y := by
      have h1 : x ∈ y :: b := h.mem_iff.mp List.mem_cons_self
      have h2 : y ∈ x :: a := h.mem_iff.mpr List.mem_cons_self
      rcases List.mem_cons.mp h1 with e | h1
      · exact e
      · rcases List.mem_cons.mp h2 with e | h2
        · exact e.symm
        · have := hb'.1 x h1
          have := ha'.1 y h2
          omega
    subst e
    rw [asc_unique (List.Perm.cons_inv h) ha'.2 hb'.2]
theorem isort_of_asc {l : List Nat} (h : Asc l) : isort l = l := asc_unique (isort_perm l) (isort_asc l) h
theorem isort_of_perm {a b : List Nat} (h : a.Perm b) : isort a = isort b := asc_unique ((isort_perm a).trans (h.trans (isort_perm b).symm)) (isort_asc a) (isort_asc b)
theorem isort_length (l : List Nat) : (isort l).length = l.length := (isort_perm l).length_eq
theorem mem_isort {l : List Nat} {x : Nat} : x ∈ isort l ↔ x ∈ l := (isort_perm l).mem_iff

def lx : List Nat → List Nat → Bool
  | [], [] => false
  | [], _ :: _ => true
  | _ :: _, [] => false
  | x :: a, y :: b => decide (x < y) || (x == y && lx a b)
theorem lx_irrefl : ∀ a : List Nat, lx a a = false
  | [] => rfl
  | x :: a => by simp [lx, lx_irrefl a]
theorem lx_trans : ∀ {a b c : List Nat}, lx a b = true → lx b c = true → lx a c = true
  | [], [], _, h, _ => by simp [lx] at h
  | [], _ :: _, [], _, h => by simp [lx] at h
  | [], _ :: _, _ :: _, _, _ => rfl
  | _ :: _, [], _, h, _ => by simp [lx] at h
  | _ :: _, _ :: _, [], _, h => by simp [lx] at h
  | x :: a, y :: b, z :: c, h1, h2 => by
    simp only [lx, Bool.or_eq_true, decide_eq_true_eq, Bool.and_eq_true, beq_iff_eq] at h1 h2 ⊢
    rcases h1 with h1 | ⟨rfl, h1⟩
    · rcases h2 with h2 | ⟨rfl, h2⟩
      · exact .inl (Nat.lt_trans h1 h2)
      · exact .inl h1
    · rcases h2 with h2 | ⟨rfl, h2⟩
      · exact .inl h2
      · exact .inr ⟨rfl, lx_trans h1 h2⟩
theorem lx_total : ∀ (a b : List Nat), lx a b = true ∨ a = b ∨ lx b a = true
  | [], [] => .inr (.inl rfl)
  | [], _ :: _ => .inl rfl
  | _ :: _, [] => .inr (.inr rfl)
  | x :: a, y :: b => by
    simp only [lx, Bool.or_eq_true, decide_eq_true_eq, Bool.and_eq_true, beq_iff_eq, List.cons.injEq]
    rcases Nat.lt_trichotomy x y with h | rfl | h
    · exact .inl (.inl h)
    · rcases lx_total a b with h | rfl | h
      · exact .inl (.inr ⟨rfl, h⟩)
      · exact .inr (.inl ⟨rfl, rfl⟩)
      · exact .inr (.inr (.inr ⟨rfl, h⟩))
    · exact .inr (.inr (.inl h))
theorem lx_asymm {a b : List Nat} (h : lx a b = true) : lx b a = false := by
  cases e : lx b a with
  | false => rfl
  | true => have := lx_trans h e; rw [lx_irrefl] at this; exact this.symm
/-- inserting a point into a lesser list keeps it less than the greater list with a last point -/
theorem lx_ins (x y : Nat) : ∀ {t u : List Nat}, t.length = u.length → lx t u = true → lx (ins x t) (u ++ [y]) = true
  | [], [], _, h => by simp [lx] at h
  | [], _ :: _, h, _ => by simp at h
  | _ :: _, [], h, _ => by simp at h
  | a :: t, b :: u, hl, h => by
    simp only [lx, Bool.or_eq_true, decide_eq_true_eq, Bool.and_eq_true, beq_iff_eq] at h
    have hl' : t.length = u.length := by simpa using hl
    unfold ins
    split
    · rename_i hxa
      show lx (x :: a :: t) (b :: (u ++ [y])) = true
      simp only [lx, Bool.or_eq_true, decide_eq_true_eq, Bool.and_eq_true, beq_iff_eq]
      rcases h with h | ⟨rfl, h⟩
      · exact .inl (by omega)
      · exact .inl hxa
    · rename_i hxa
      show lx (a :: ins x t) (b :: (u ++ [y])) = true
      simp only [lx, Bool.or_eq_true, decide_eq_true_eq, Bool.and_eq_true, beq_iff_eq]
      rcases h with h | ⟨rfl, h⟩
      · exact .inl h
      · exact .inr ⟨rfl, lx_ins x y hl' h⟩
end KM

namespace KM
/-! ### sums over lists -/
def sm {α : Type} (l : List α) (f : α → Nat) : Nat := (l.map f).sum
theorem sm_nil {α : Type} (f : α → Nat) : sm [] f = 0 := rfl
theorem sm_cons {α : Type} (x : α) (l : List α) (f : α → Nat) : sm (x :: l) f = f x + sm l f := by
  unfold sm
  rw [List.map_cons, List.sum_cons]
theorem sm_append {α : Type} (f : α → Nat) : ∀ (a b : List α), sm (a ++ b) f = sm a f + sm b f
  | [], b => by rw [List.nil_append, sm_nil, Nat.zero_add]
  | x :: a, b => by rw [List.cons_append, sm_cons, sm_cons, sm_append f a b, Nat.add_assoc]
theorem sm_congr {α : Type} {l : List α} {f g : α → Nat} (h : ∀ x ∈ l, f x = g x) : sm l f = sm l g := by
  unfold sm
  rw [List.map_congr_left h]
theorem sm_zero {α : Type} (l : List α) : sm l (fun _ => 0) = 0 := by
  induction l with
  | nil => rfl
  | cons x l ih => rw [sm_cons, ih]
theorem sm_add {α : Type} (l : List α) (f g : α → Nat) : sm l (fun x => f x + g x) = sm l f + sm l g := by
  induction l with
  | nil => rfl
  | cons x l ih =>
    rw [sm_cons, sm_cons, sm_cons, ih]
    omega
theorem sm_const {α : Type} (l : List α) (c : Nat) : sm l (fun _ => c) = l.length * c := by
  induction l with
  | nil => rw [sm_nil, List.length_nil, Nat.zero_mul]
  | cons x l ih => rw [sm_cons, ih, List.length_cons, Nat.add_mul, Nat.one_mul, Nat.add_comm]
theorem sm_swap {α β : Type} (l : List α) (m : List β) (f : α → β → Nat) : sm l (fun a => sm m (fun b => f a b)) = sm m (fun b => sm l (fun a => f a b)) := by
  induction l with
  | nil => rw [sm_nil]; exact (sm_zero m).symm
  | cons x l ih =>
    rw [sm_cons, ih, ← sm_add]
    exact sm_congr fun b _ => (sm_cons x l (fun a => f a b)).symm
theorem sm_perm {α : Type} {a b : List α} (h : a.Perm b) (f : α → Nat) : sm a f = sm b f := by
  induction h with
  | nil => rfl
  | cons x _ ih => rw [sm_cons, sm_cons, ih]
  | swap x y l => rw [sm_cons, sm_cons, sm_cons, sm_cons]; omega
  | trans _ _ h1 h2 => rw [h1, h2]
theorem sm_map {α β : Type} (g : α → β) (l : List α) (f : β → Nat) : sm (l.map g) f = sm l (fun x => f (g x)) := by
  unfold sm
  rw [List.map_map]
  rfl
/-- the number of those that a test takes -/
def ct {α : Type} (l : List α) (p : α → Bool) : Nat := sm l fun x => if p x then 1 else 0
theorem ct_filter {α : Type} (l : List α) (p : α → Bool) : ct l p = (l.filter p).length := by
  induction l with
  | nil => rfl
  | cons x l ih =>
    unfold ct at ih ⊢
    rw [sm_cons, ih, List.filter_cons]
    cases p x
    · rw [if_neg (by decide), if_neg (by decide), Nat.zero_add]
    · rw [if_pos rfl, if_pos rfl, List.length_cons, Nat.add_comm]
theorem ct_congr {α : Type} {l : List α} {p q : α → Bool} (h : ∀ x ∈ l, p x = q x) : ct l p = ct l q := sm_congr fun x hx => by rw [h x hx]
theorem ct_perm {α : Type} {a b : List α} (h : a.Perm b) (p : α → Bool) : ct a p = ct b p := sm_perm h _
theorem ct_zero {α : Type} {l : List α} {p : α → Bool} (h : ∀ x ∈ l, p x = false) : ct l p = 0 := by
  rw [ct_congr h]
  exact sm_zero l
/-- a single place -/
theorem ct_one {α : Type} [DecidableEq α] {l : List α} {p : α → Bool} {y : α} (hn : l.Nodup) (hy : y ∈ l) (h : ∀ x ∈ l, p x = decide (x = y)) : ct l p = 1 := by
  rw [ct_congr h]
  clear h
  induction l with
  | nil => cases hy
  | cons x l ih =>
    have hn' := List.nodup_cons.mp hn
    have e := sm_cons x l (fun z => if decide (z = y) = true then 1 else 0)
    unfold ct at ih ⊢
    rw [e]
    by_cases hx : x = y
    · subst hx
      have z : sm l (fun z => if decide (z = x) = true then 1 else 0) = 0 := by
        have : sm l (fun z => if decide (z = x) = true then 1 else 0) = sm l (fun _ => 0) := sm_congr fun z hz => by
          have : z ≠ x := fun q => hn'.1 (q ▸ hz)
          rw [decide_eq_false this]
          rfl
        rw [this, sm_zero]
      rw [z, decide_eq_true rfl]
      rfl
    · have hy' : y ∈ l := by
        rcases List.mem_cons.mp hy with q | q
        · exact absurd q.symm hx
        · exact q
      rw [ih hn'.2 hy', decide_eq_false hx]
      rfl
/-- a sum that one place carries -/
theorem sm_one {α : Type} [DecidableEq α] {l : List α} {f : α → Nat} {y : α} {c : Nat} (hn : l.Nodup) (hy : y ∈ l) (hc : f y = c) (h : ∀ x ∈ l, x ≠ y → f x = 0) : sm l f = c := by
  induction l with
  | nil => cases hy
  | cons x l ih =>
    have hn' := List.nodup_cons.mp hn
    rw [sm_cons]
    by_cases hx : x = y
    · subst hx
      have : sm l f = sm l (fun _ => 0) := sm_congr fun z hz => h z (List.mem_cons_of_mem _ hz) fun q => hn'.1 (q ▸ hz)
      rw [this, sm_zero, hc]
      rfl
    · have hy' : y ∈ l := by
        rcases List.mem_cons.mp hy with q | q
        · exact absurd q.symm hx
        · exact q
      rw [ih hn'.2 hy' fun z hz => h z (List.mem_cons_of_mem _ hz), h x List.mem_cons_self hx, Nat.zero_add]

/-! ### sets of points -/
structure IsSet (n k : Nat) (S : List Nat) : Prop where
  asc : S.Pairwise (· < ·)
  bd : ∀ x ∈ S, x < n
  len : S.length = k
theorem IsSet.nd {n k : Nat} {S : List Nat} (h : IsSet n k S) : S.Nodup := h.asc.imp fun h => Nat.ne_of_lt h
theorem IsSet.le {n k : Nat} {S : List Nat} (h : IsSet n k S) : Asc S := h.asc.imp fun h => Nat.le_of_lt h
theorem asc_lt {S : List Nat} (h : Asc S) (hn : S.Nodup) : S.Pairwise (· < ·) := by
  induction S with
  | nil => exact List.Pairwise.nil
  | cons x S ih =>
    have h' := List.pairwise_cons.mp h
    have hn' := List.nodup_cons.mp hn
    refine List.pairwise_cons.mpr ⟨fun y hy => ?_, ih h'.2 hn'.2⟩
    have := h'.1 y hy
    have : x ≠ y := fun e => hn'.1 (e ▸ hy)
    omega
def img (g S : List Nat) : List Nat := isort (S.map (app g))
theorem img_map_nd {n k : Nat} {g S : List Nat} (G : IsPerm n g) (h : IsSet n k S) : (S.map (app g)).Nodup :=
  nodup_map_of_inj h.nd fun a ha b hb e => G.inj (h.bd a ha) (h.bd b hb) e
theorem img_set {n k : Nat} {g S : List Nat} (G : IsPerm n g) (h : IsSet n k S) : IsSet n k (img g S) := by
  refine ⟨asc_lt (isort_asc _) ((isort_perm _).nodup_iff.mpr (img_map_nd G h)), fun x hx => ?_, ?_⟩
  · obtain ⟨y, hy, rfl⟩ := List.mem_map.mp (mem_isort.mp hx)
    exact G.lt (h.bd y hy)
  · unfold img
    rw [isort_length, List.length_map, h.len]
theorem mem_img {g S : List Nat} {y : Nat} : y ∈ img g S ↔ ∃ x ∈ S, app g x = y := by
  unfold img
  rw [mem_isort, List.mem_map]
theorem img_unit {n k : Nat} {S : List Nat} (h : IsSet n k S) : img (unit n) S = S := by
  unfold img
  have : S.map (app (unit n)) = S := by
    have := List.map_congr_left (f := app (unit n)) (g := id) (l := S) fun x hx => app_unit (h.bd x hx)
    rw [this, List.map_id]
  rw [this]
  exact isort_of_asc h.le
theorem img_mul {n k : Nat} {g f S : List Nat} (G : IsPerm n g) (h : IsSet n k S) : img (mul g f) S = img f (img g S) := by
  unfold img
  refine isort_of_perm ?_
  have e : S.map (app (mul g f)) = (S.map (app g)).map (app f) := by
    rw [List.map_map]
    exact List.map_congr_left fun x hx => app_mul G (h.bd x hx)
  rw [e]
  exact (isort_perm _).symm.map _
/-- a set is kept if its points stay in it -/
theorem img_eq_iff {n k : Nat} {g S : List Nat} (G : IsPerm n g) (h : IsSet n k S) : img g S = S ↔ ∀ x ∈ S, app g x ∈ S := by
  constructor
  · intro e x hx
    rw [← e]
    exact mem_img.mpr ⟨x, hx, rfl⟩
  · intro hs
    refine asc_unique ?_ (isort_asc _) h.le
    refine perm_of_nodup_subset _ _ (img_set G h).nd (fun y hy => ?_) (by rw [(img_set G h).len, h.len]; exact Nat.le_refl _)
    obtain ⟨x, hx, rfl⟩ := mem_img.mp hy
    exact hs x hx

/-! ### all sets -/
def subs : Nat → List (List Nat)
  | 0 => [[]]
  | n + 1 => subs n ++ (subs n).map (· ++ [n])
theorem mem_subs : ∀ {n : Nat} {S : List Nat}, S ∈ subs n ↔ (S.Pairwise (· < ·) ∧ ∀ x ∈ S, x < n)
  | 0, S => by
    constructor
    · intro h
      have e : S = [] := by simpa [subs] using h
      subst e
      exact ⟨List.Pairwise.nil, fun x hx => nomatch hx⟩
    · rintro ⟨_, h⟩
      cases S with
      | nil => simp [subs]
      | cons x S => exact absurd (h x List.mem_cons_self) (Nat.not_lt_zero _)
  | n + 1, S => by
    have ih := @mem_subs n
    constructor
    · intro h
      rcases List.mem_append.mp h with h | h
      · obtain ⟨h1, h2⟩ := ih.mp h
        exact ⟨h1, fun x hx => Nat.lt_succ_of_lt (h2 x hx)⟩
      · obtain ⟨T, hT, rfl⟩ := List.mem_map.mp h
        obtain ⟨h1, h2⟩ := ih.mp hT
        refine ⟨List.pairwise_append.mpr ⟨h1, List.pairwise_singleton _ _, fun a ha b hb => ?_⟩, fun x hx => ?_⟩
        · rw [List.mem_singleton.mp hb]
          exact h2 a ha
        · rcases List.mem_append.mp hx with hx | hx
          · exact Nat.lt_succ_of_lt (h2 x hx)
          · rw [List.mem_singleton.mp hx]
            exact Nat.lt_succ_self n
    · rintro ⟨h1, h2⟩
      by_cases hn : n ∈ S
      · -- n is the last point
        have hne : S ≠ [] := fun e => by rw [e] at hn; cases hn
        have hd := List.dropLast_concat_getLast hne
        rw [← hd] at h1 hn
        obtain ⟨p1, _, p3⟩ := List.pairwise_append.mp h1
        have hl : S.getLast hne = n := by
          rcases List.mem_append.mp hn with q | q
          · have := p3 n q _ (List.mem_singleton_self _)
            have := h2 _ (List.getLast_mem hne)
            omega
          · exact (List.mem_singleton.mp q).symm
        refine List.mem_append.mpr (.inr (List.mem_map.mpr ⟨S.dropLast, ih.mpr ⟨p1, fun x hx => ?_⟩, by rw [← hl]; exact hd⟩))
        rw [← hl]
        exact p3 x hx _ (List.mem_singleton_self _)
      · refine List.mem_append.mpr (.inl (ih.mpr ⟨h1, fun x hx => ?_⟩))
        have := h2 x hx
        have : x ≠ n := fun e => hn (e ▸ hx)
        omega
theorem subs_nd : ∀ n : Nat, (subs n).Nodup
  | 0 => by simp [subs]
  | n + 1 => by
    refine List.nodup_append.mpr ⟨subs_nd n, nodup_map_of_inj (subs_nd n) fun a _ b _ e => ?_, fun a ha b hb e => ?_⟩
    · exact List.append_cancel_right e
    · subst e
      obtain ⟨T, hT, rfl⟩ := List.mem_map.mp hb
      have := (mem_subs.mp ha).2 n (List.mem_append.mpr (.inr (List.mem_singleton_self _)))
      omega
/-- sorting lists by insertion -/
def insL (x : List Nat) : List (List Nat) → List (List Nat)
  | [] => [x]
  | y :: l => if lx y x = true then y :: insL x l else x :: y :: l
def lsort : List (List Nat) → List (List Nat)
  | [] => []
  | x :: l => insL x (lsort l)
theorem insL_perm (x : List Nat) : ∀ l, (insL x l).Perm (x :: l)
  | [] => List.Perm.refl _
  | y :: l => by
    unfold insL
    split
    · exact ((insL_perm x l).cons y).trans (List.Perm.swap x y l)
    · exact List.Perm.refl _
theorem lsort_perm : ∀ l, (lsort l).Perm l
  | [] => List.Perm.refl _
  | x :: l => (insL_perm x _).trans ((lsort_perm l).cons x)
abbrev Lxs (l : List (List Nat)) : Prop := l.Pairwise fun a b => lx b a = false
theorem lx_le_trans {a b c : List Nat} (h1 : lx b a = false) (h2 : lx c b = false) : lx c a = false := by
  cases e : lx c a with
  | false => rfl
  | true =>
    rcases lx_total b c with q | rfl | q
    · have := lx_trans q e
      rw [this] at h1; cases h1
    · rw [e] at h1; cases h1
    · rw [q] at h2; cases h2
theorem insL_lxs (x : List Nat) : ∀ l, Lxs l → Lxs (insL x l)
  | [], _ => List.pairwise_singleton _ _
  | y :: l, h => by
    have h' := List.pairwise_cons.mp h
    unfold insL
    split
    · rename_i hq
      refine List.pairwise_cons.mpr ⟨fun z hz => ?_, insL_lxs x l h'.2⟩
      rcases List.mem_cons.mp ((insL_perm x l).mem_iff.mp hz) with rfl | hz
      · exact lx_asymm hq
      · exact h'.1 z hz
    · rename_i hq
      have hq' : lx y x = false := by simpa using hq
      refine List.pairwise_cons.mpr ⟨fun z hz => ?_, h⟩
      rcases List.mem_cons.mp hz with rfl | hz
      · exact hq'
      · exact lx_le_trans hq' (h'.1 z hz)
theorem lsort_lxs : ∀ l, Lxs (lsort l)
  | [] => List.Pairwise.nil
  | x :: l => insL_lxs x _ (lsort_lxs l)
theorem lx_eq {a b : List Nat} (h1 : lx a b = false) (h2 : lx b a = false) : a = b := by
  rcases lx_total a b with q | q | q
  · rw [q] at h1; cases h1
  · exact q
  · rw [q] at h2; cases h2
theorem lxs_unique : ∀ {a b : List (List Nat)}, a.Perm b → Lxs a → Lxs b → a = b
  | [], b, h, _, _ => by rw [List.nil_perm.mp h]
  | x :: a, [], h, _, _ => by
    have := h.length_eq
    simp at this
  | x :: a, y :: b, h, ha, hb => by
    have ha' := List.pairwise_cons.mp ha
    have hb' := List.pairwise_cons.mp hb
    have e : x = y := by
      have h1 : x ∈ y :: b := h.mem_iff.mp List.mem_cons_self
      have h2 : y ∈ x :: a := h.mem_iff.mpr List.mem_cons_self
      rcases List.mem_cons.mp h1 with e | h1
      · exact e
      · rcases List.mem_cons.mp h2 with e | h2
        · exact e.symm
        · exact lx_eq (ha'.1 y h2 |> fun z => by
            have q1 := hb'.1 x h1
            exact q1) (ha'.1 y h2)
    subst e
    rw [lxs_unique (List.Perm.cons_inv h) ha'.2 hb'.2]
def ksets (n k : Nat) : List (List Nat) := lsort ((subs n).filter fun S => S.length == k)
theorem mem_ksets {n k : Nat} {S : List Nat} : S ∈ ksets n k ↔ IsSet n k S := by
  unfold ksets
  rw [(lsort_perm _).mem_iff, List.mem_filter, mem_subs, beq_iff_eq]
  exact ⟨fun ⟨⟨a, b⟩, c⟩ => ⟨a, b, c⟩, fun ⟨a, b, c⟩ => ⟨⟨a, b⟩, c⟩⟩
theorem ksets_nd (n k : Nat) : (ksets n k).Nodup := (lsort_perm _).nodup_iff.mpr ((subs_nd n).sublist List.filter_sublist)
theorem ksets_lxs (n k : Nat) : Lxs (ksets n k) := lsort_lxs _
theorem ksets_perm (n k : Nat) : (ksets n k).Perm ((subs n).filter fun S => S.length == k) := lsort_perm _
end KM

namespace KM
/-! ### reach, closure, orbits -/
abbrev Gens (n : Nat) (gens : List (List Nat)) : Prop := ∀ g ∈ gens, IsPerm n g
inductive Reach (n : Nat) (gens : List (List Nat)) : List Nat → Prop
  | one : Reach n gens (unit n)
  | step {x g : List Nat} : Reach n gens x → g ∈ gens → Reach n gens (mul x g)
inductive SReach (gens : List (List Nat)) (S : List Nat) : List Nat → Prop
  | refl : SReach gens S S
  | step {T g : List Nat} : SReach gens S T → g ∈ gens → SReach gens S (img g T)
structure Clo (n : Nat) (gens E : List (List Nat)) : Prop where
  gs : Gens n gens
  one : unit n ∈ E
  step : ∀ x ∈ E, ∀ g ∈ gens, mul x g ∈ E
  nd : E.Nodup
  reach : ∀ x ∈ E, Reach n gens x
section
variable {n : Nat} {gens E : List (List Nat)}
theorem Reach.perm (gs : Gens n gens) {x : List Nat} (h : Reach n gens x) : IsPerm n x := by
  induction h with
  | one => exact isPerm_unit n
  | step _ hg ih => exact ih.mul (gs _ hg)
theorem Clo.perm (C : Clo n gens E) {x : List Nat} (h : x ∈ E) : IsPerm n x := (C.reach x h).perm C.gs
theorem Clo.mulR (C : Clo n gens E) {x y : List Nat} (hx : x ∈ E) (hy : Reach n gens y) : mul x y ∈ E := by
  induction hy with
  | one => rw [mul_unit (C.perm hx)]; exact hx
  | step h hg ih =>
    rw [← mul_assoc (C.perm hx) (h.perm C.gs) (C.gs _ hg)]
    exact C.step _ ih _ hg
theorem Clo.mem (C : Clo n gens E) {x : List Nat} (h : Reach n gens x) : x ∈ E := by
  have := C.mulR C.one h
  rwa [unit_mul (h.perm C.gs)] at this
theorem Clo.mul (C : Clo n gens E) {x y : List Nat} (hx : x ∈ E) (hy : y ∈ E) : mul x y ∈ E := C.mulR hx (C.reach y hy)
theorem Clo.left (C : Clo n gens E) {x : List Nat} (hx : x ∈ E) : (E.map (KM.mul x)).Perm E :=
  map_perm_of_inj C.nd (fun a ha b hb e => mul_left_cancel (C.perm hx) (C.perm ha) (C.perm hb) e) fun y hy => C.mul hx hy
theorem Clo.inv (C : Clo n gens E) {x : List Nat} (hx : x ∈ E) : ∃ y ∈ E, KM.mul x y = unit n := by
  have h : unit n ∈ E.map (KM.mul x) := (C.left hx).mem_iff.mpr C.one
  obtain ⟨y, hy, e⟩ := List.mem_map.mp h
  exact ⟨y, hy, e⟩
theorem Clo.gen (C : Clo n gens E) {g : List Nat} (hg : g ∈ gens) : g ∈ E := by
  have := C.step _ C.one g hg
  rwa [unit_mul (C.gs g hg)] at this
theorem SReach.set (gs : Gens n gens) {k : Nat} {S T : List Nat} (h : SReach gens S T) (hS : IsSet n k S) : IsSet n k T := by
  induction h with
  | refl => exact hS
  | step _ hg ih => exact img_set (gs _ hg) ih
theorem sreach_of_reach (gs : Gens n gens) {k : Nat} {S x : List Nat} (hS : IsSet n k S) (h : Reach n gens x) : SReach gens S (img x S) := by
  induction h with
  | one => rw [img_unit hS]; exact .refl
  | step h hg ih =>
    rw [img_mul (h.perm gs) hS]
    exact .step ih hg
theorem reach_of_sreach (gs : Gens n gens) {k : Nat} {S T : List Nat} (hS : IsSet n k S) (h : SReach gens S T) : ∃ x, Reach n gens x ∧ img x S = T := by
  induction h with
  | refl => exact ⟨_, .one, img_unit hS⟩
  | step _ hg ih =>
    obtain ⟨x, hx, e⟩ := ih
    exact ⟨_, .step hx hg, by rw [img_mul (hx.perm gs) hS, e]⟩
theorem Clo.sreach (C : Clo n gens E) {k : Nat} {S T : List Nat} (hS : IsSet n k S) : SReach gens S T ↔ ∃ x ∈ E, img x S = T :=
  ⟨fun h => let ⟨x, hx, e⟩ := reach_of_sreach C.gs hS h; ⟨x, C.mem hx, e⟩, fun ⟨_, hx, e⟩ => e ▸ sreach_of_reach C.gs hS (C.reach _ hx)⟩
theorem Clo.back (C : Clo n gens E) {k : Nat} {S x : List Nat} (hS : IsSet n k S) (hx : x ∈ E) : ∃ y ∈ E, img y (img x S) = S := by
  obtain ⟨y, hy, e⟩ := C.inv hx
  exact ⟨y, hy, by rw [← img_mul (C.perm hx) hS, e, img_unit hS]⟩

/-! ### the least sets -/
/-- no image is less -/
def isLeast (E : List (List Nat)) (S : List Nat) : Bool := E.all fun x => !lx (img x S) S
theorem isLeast_iff {S : List Nat} : isLeast E S = true ↔ ∀ x ∈ E, lx (img x S) S = false := by
  unfold isLeast
  rw [List.all_eq_true]
  exact ⟨fun h x hx => by simpa using h x hx, fun h x hx => by simp [h x hx]⟩
def leasts (E : List (List Nat)) (n k : Nat) : List (List Nat) := (ksets n k).filter (isLeast E)
theorem mem_leasts {k : Nat} {S : List Nat} : S ∈ leasts E n k ↔ IsSet n k S ∧ ∀ x ∈ E, lx (img x S) S = false := by
  unfold leasts
  rw [List.mem_filter, mem_ksets, isLeast_iff]
theorem leasts_nd (k : Nat) : (leasts E n k).Nodup := (ksets_nd n k).sublist List.filter_sublist
/-- a list that is not empty has a least item -/
theorem exists_least : ∀ {l : List (List Nat)}, l ≠ [] → ∃ m ∈ l, ∀ x ∈ l, lx x m = false
  | [], h => absurd rfl h
  | [x], _ => ⟨x, List.mem_cons_self, fun y hy => by rw [List.mem_singleton.mp hy]; exact lx_irrefl x⟩
  | x :: y :: l, _ => by
    obtain ⟨m, hm, h⟩ := exists_least (l := y :: l) (by simp)
    by_cases e : lx x m = true
    · refine ⟨x, List.mem_cons_self, fun z hz => ?_⟩
      rcases List.mem_cons.mp hz with rfl | hz
      · exact lx_irrefl z
      · exact lx_le_trans (lx_asymm e) (h z hz)
    · refine ⟨m, List.mem_cons_of_mem _ hm, fun z hz => ?_⟩
      rcases List.mem_cons.mp hz with rfl | hz
      · simpa using e
      · exact h z hz
/-- each set is an image of one least set -/
theorem Clo.least (C : Clo n gens E) {k : Nat} {S : List Nat} (hS : IsSet n k S) : ∃ R ∈ leasts E n k, ∃ x ∈ E, img x R = S := by
  obtain ⟨R, hR, h⟩ := exists_least (l := E.map fun x => img x S) (by
    intro e
    have := C.one
    rw [List.map_eq_nil_iff.mp e] at this
    cases this)
  obtain ⟨x, hx, rfl⟩ := List.mem_map.mp hR
  refine ⟨img x S, mem_leasts.mpr ⟨img_set (C.perm hx) hS, fun y hy => ?_⟩, C.back hS hx⟩
  have := h (img (KM.mul x y) S) (List.mem_map.mpr ⟨_, C.mul hx hy, rfl⟩)
  rwa [img_mul (C.perm hx) hS] at this
/-- and of no other -/
theorem Clo.least_unique (C : Clo n gens E) {k : Nat} {R R' x y : List Nat} (hR : R ∈ leasts E n k) (hR' : R' ∈ leasts E n k) (hx : x ∈ E) (hy : y ∈ E) (e : img x R = img y R') : R = R' := by
  obtain ⟨r1, r2⟩ := mem_leasts.mp hR
  obtain ⟨s1, s2⟩ := mem_leasts.mp hR'
  obtain ⟨x', hx', e1⟩ := C.back r1 hx
  obtain ⟨y', hy', e2⟩ := C.back s1 hy
  -- R = x' y R', R' = y' x R
  have h1 : img (KM.mul y x') R' = R := by rw [img_mul (C.perm hy) s1, ← e, e1]
  have h2 : img (KM.mul x y') R = R' := by rw [img_mul (C.perm hx) r1, e, e2]
  have a := s2 _ (C.mul hy hx')
  have b := r2 _ (C.mul hx hy')
  rw [h1] at a
  rw [h2] at b
  exact lx_eq a b

/-! ### the count of orbits by the average of kept sets -/
def fixed (n k : Nat) (x : List Nat) : Nat := ct (ksets n k) fun S => decide (img x S = S)
theorem Clo.burnside (C : Clo n gens E) (k : Nat) : sm E (fixed n k) = (leasts E n k).length * E.length := by
  unfold fixed ct
  rw [sm_swap]
  have stab : ∀ S ∈ ksets n k, sm E (fun x => if decide (img x S = S) = true then 1 else 0) = sm (leasts E n k) (fun R => sm E fun x => if decide (img x R = S) = true then 1 else 0) := by
    intro S hS
    obtain ⟨R, hR, h, hh, e⟩ := C.least (mem_ksets.mp hS)
    symm
    refine sm_one (leasts_nd k) hR ?_ fun R' hR' ne => ?_
    · -- those that take R to S are h and then one that keeps S
      have r1 := (mem_leasts.mp hR).1
      rw [← sm_perm (C.left hh), sm_map]
      refine sm_congr fun x hx => ?_
      rw [img_mul (C.perm hh) r1, e]
    · refine Eq.trans (sm_congr (g := fun _ => 0) fun x hx => ?_) (sm_zero E)
      have : img x R' ≠ S := fun q => ne (C.least_unique hR' hR hx hh (q.trans e.symm))
      rw [decide_eq_false this]
      rfl
  rw [sm_congr stab, sm_swap]
  have one : ∀ R ∈ leasts E n k, sm (ksets n k) (fun S => sm E fun x => if decide (img x R = S) = true then 1 else 0) = E.length := by
    intro R hR
    rw [sm_swap]
    have r1 := (mem_leasts.mp hR).1
    have : sm E (fun x => sm (ksets n k) fun S => if decide (img x R = S) = true then 1 else 0) = sm E (fun _ => 1) := by
      refine sm_congr fun x hx => ?_
      refine ct_one (ksets_nd n k) (mem_ksets.mpr (img_set (C.perm hx) r1)) fun S _ => ?_
      by_cases q : img x R = S
      · rw [decide_eq_true q, decide_eq_true q.symm]
      · rw [decide_eq_false q, decide_eq_false fun z => q z.symm]
    rw [this, sm_const, Nat.mul_one]
  rw [sm_congr one, sm_const]
theorem Clo.pos (C : Clo n gens E) : 0 < E.length := List.length_pos_of_mem C.one
theorem Clo.count (C : Clo n gens E) (k : Nat) : sm E (fixed n k) / E.length = (leasts E n k).length := by
  rw [C.burnside k]
  exact Nat.mul_div_cancel _ C.pos

/-! ### a least set without its greatest point -/
theorem img_concat {g S : List Nat} {y : Nat} : img g (S ++ [y]) = ins (app g y) (img g S) := by
  unfold img
  refine asc_unique ((isort_perm _).trans ?_) (isort_asc _) (ins_asc _ _ (isort_asc _))
  refine List.Perm.trans ?_ (ins_perm _ _).symm
  rw [List.map_append]
  refine List.Perm.trans (List.perm_append_comm) ?_
  exact ((isort_perm _).symm).cons _
theorem Clo.drop (C : Clo n gens E) {k : Nat} {S : List Nat} (h : S ∈ leasts E n (k + 1)) : S.dropLast ∈ leasts E n k := by
  obtain ⟨s1, s2⟩ := mem_leasts.mp h
  have hne : S ≠ [] := fun e => by
    have := s1.len
    rw [e] at this
    cases this
  have hd := List.dropLast_concat_getLast hne
  have t1 : IsSet n k S.dropLast := by
    refine ⟨?_, fun x hx => s1.bd x (List.dropLast_subset _ hx), by rw [List.length_dropLast, s1.len]; rfl⟩
    have := s1.asc
    rw [← hd] at this
    exact (List.pairwise_append.mp this).1
  refine mem_leasts.mpr ⟨t1, fun x hx => ?_⟩
  cases e : lx (img x S.dropLast) S.dropLast with
  | false => rfl
  | true =>
    have l : (img x S.dropLast).length = S.dropLast.length := by rw [(img_set (C.perm hx) t1).len, t1.len]
    have := lx_ins (app x (S.getLast hne)) (S.getLast hne) l e
    rw [← img_concat, hd, s2 x hx] at this
    cases this
/-! ### orbits by breadth -/
structure SOrb (gens : List (List Nat)) (S : List Nat) (F : List (List Nat)) : Prop where
  one : S ∈ F
  step : ∀ T ∈ F, ∀ g ∈ gens, img g T ∈ F
  reach : ∀ T ∈ F, SReach gens S T
theorem SOrb.mem {S : List Nat} {F : List (List Nat)} (O : SOrb gens S F) {T : List Nat} : T ∈ F ↔ SReach gens S T := by
  refine ⟨O.reach T, fun h => ?_⟩
  induction h with
  | refl => exact O.one
  | step _ hg ih => exact O.step _ ih _ hg
end
end KM

namespace KM
/-! ### counting sublists by a test -/
def cnt : List Nat → (List Nat → Bool) → Nat
  | [], P => if P [] = true then 1 else 0
  | x :: l, P => cnt l P + cnt l fun S => P (x :: S)
theorem cnt_congr : ∀ {l : List Nat} {P R : List Nat → Bool}, (∀ S, S.Sublist l → P S = R S) → cnt l P = cnt l R
  | [], P, R, h => by
    unfold cnt
    rw [h [] (List.Sublist.refl _)]
  | x :: l, P, R, h => by
    unfold cnt
    rw [cnt_congr (l := l) fun S hS => h S (hS.cons x), cnt_congr (l := l) (P := fun S => P (x :: S)) (R := fun S => R (x :: S)) fun S hS => h (x :: S) (hS.cons_cons x)]
theorem cnt_zero : ∀ {l : List Nat} {P : List Nat → Bool}, (∀ S, S.Sublist l → P S = false) → cnt l P = 0
  | [], P, h => by
    unfold cnt
    rw [h [] (List.Sublist.refl _)]
    rfl
  | x :: l, P, h => by
    unfold cnt
    rw [cnt_zero (l := l) fun S hS => h S (hS.cons x), cnt_zero (l := l) fun S hS => h (x :: S) (hS.cons_cons x)]
/-- a test that does not see the order -/
def Ord (P : List Nat → Bool) : Prop := ∀ a b : List Nat, a.Perm b → P a = P b
theorem cnt_perm {a b : List Nat} (h : a.Perm b) : ∀ {P : List Nat → Bool}, Ord P → cnt a P = cnt b P := by
  induction h with
  | nil => intro P _; rfl
  | cons x _ ih =>
    intro P hP
    unfold cnt
    rw [ih hP, ih fun u v q => hP _ _ (q.cons x)]
  | swap x y l =>
    intro P hP
    unfold cnt
    unfold cnt
    have : cnt l (fun S => P (y :: x :: S)) = cnt l fun S => P (x :: y :: S) := cnt_congr fun S _ => hP _ _ (List.Perm.swap x y S)
    show cnt l P + cnt l (fun S => P (x :: S)) + (cnt l (fun S => P (y :: S)) + cnt l (fun S => P (y :: x :: S))) = cnt l P + cnt l (fun S => P (y :: S)) + (cnt l (fun S => P (x :: S)) + cnt l (fun S => P (x :: y :: S)))
    rw [this]
    omega
  | trans _ _ h1 h2 => intro P hP; rw [h1 hP, h2 hP]
theorem cnt_none : ∀ {r l : List Nat} {P : List Nat → Bool}, (∀ A, A.Sublist r → A ≠ [] → ∀ B, B.Sublist l → P (A ++ B) = false) → cnt (r ++ l) P = cnt l P
  | [], l, P, _ => rfl
  | x :: r, l, P, h => by
    show cnt (r ++ l) P + cnt (r ++ l) (fun S => P (x :: S)) = cnt l P
    rw [cnt_none (r := r) fun A hA hne B hB => h A (hA.cons x) hne B hB, cnt_zero (l := r ++ l) (P := fun S => P (x :: S)), Nat.add_zero]
    intro S hS
    obtain ⟨A, B, rfl, hA, hB⟩ := List.sublist_append_iff.mp hS
    exact h (x :: A) (hA.cons_cons x) (by simp) B hB
theorem cnt_all : ∀ {r l : List Nat} {P : List Nat → Bool}, (∀ A, A.Sublist r → A ≠ r → ∀ B, B.Sublist l → P (A ++ B) = false) → cnt (r ++ l) P = cnt l fun B => P (r ++ B)
  | [], l, P, _ => rfl
  | x :: r, l, P, h => by
    show cnt (r ++ l) P + cnt (r ++ l) (fun S => P (x :: S)) = cnt l fun B => P (x :: r ++ B)
    rw [cnt_all (r := r) (P := fun S => P (x :: S)) fun A hA hne B hB => h (x :: A) (hA.cons_cons x) (fun e => hne (List.cons.inj e).2) B hB, cnt_zero, Nat.zero_add]
    · rfl
    intro S hS
    obtain ⟨A, B, rfl, hA, hB⟩ := List.sublist_append_iff.mp hS
    refine h A (hA.cons x) (fun e => ?_) B hB
    have := hA.length_le
    rw [e, List.length_cons] at this
    omega
theorem cnt_two {r l : List Nat} {P : List Nat → Bool} (hr : r ≠ []) (h : ∀ A, A.Sublist r → A ≠ [] → A ≠ r → ∀ B, B.Sublist l → P (A ++ B) = false) :
    cnt (r ++ l) P = cnt l P + cnt l fun B => P (r ++ B) := by
  cases r with
  | nil => exact absurd rfl hr
  | cons x r =>
    show cnt (r ++ l) P + cnt (r ++ l) (fun S => P (x :: S)) = cnt l P + cnt l fun B => P (x :: r ++ B)
    rw [cnt_none (r := r) fun A hA hne B hB => h A (hA.cons x) hne (fun e => by
        have := hA.length_le
        rw [e, List.length_cons] at this
        omega) B hB,
      cnt_all (r := r) (P := fun S => P (x :: S)) fun A hA hne B hB => h (x :: A) (hA.cons_cons x) (by simp) (fun e => hne (List.cons.inj e).2) B hB]
    rfl
theorem ct_subs : ∀ (n : Nat) {P : List Nat → Bool}, Ord P → ct (subs n) P = cnt (List.range n).reverse P
  | 0, P, _ => by
    show sm [[]] _ = _
    rw [sm_cons, sm_nil]
    rfl
  | n + 1, P, hP => by
    have e : (List.range (n + 1)).reverse = n :: (List.range n).reverse := by
      rw [List.range_succ, List.reverse_append]
      rfl
    rw [e]
    show sm (subs n ++ (subs n).map (· ++ [n])) _ = cnt (List.range n).reverse P + cnt (List.range n).reverse fun S => P (n :: S)
    rw [sm_append, sm_map]
    have a := ct_subs n hP
    have b := ct_subs n (P := fun S => P (n :: S)) fun u v q => hP _ _ (q.cons n)
    unfold ct at a b
    rw [a, ← b]
    congr 1
    refine sm_congr fun S _ => ?_
    rw [hP (S ++ [n]) (n :: S) List.perm_append_comm]
/-- kept by p -/
def cl (p S : List Nat) : Bool := S.all fun x => S.contains (app p x)
theorem cl_iff {p S : List Nat} : cl p S = true ↔ ∀ x ∈ S, app p x ∈ S := by
  unfold cl
  rw [List.all_eq_true]
  exact ⟨fun h x hx => by simpa using h x hx, fun h x hx => by simpa using h x hx⟩
def sz (p : List Nat) (k : Nat) (S : List Nat) : Bool := S.length == k && cl p S
theorem sz_ord (p : List Nat) (k : Nat) : Ord (sz p k) := fun a b h => by
  unfold sz
  have : cl p a = cl p b := by
    rw [Bool.eq_iff_iff, cl_iff, cl_iff]
    exact ⟨fun q x hx => h.mem_iff.mp (q x (h.mem_iff.mpr hx)), fun q x hx => h.mem_iff.mpr (q x (h.mem_iff.mp hx))⟩
  rw [this, h.length_eq]
theorem fixed_cnt {n : Nat} {p : List Nat} (hp : IsPerm n p) (k : Nat) : fixed n k p = cnt (List.range n) (sz p k) := by
  unfold fixed
  rw [ct_perm (ksets_perm n k)]
  have e : ct ((subs n).filter fun S => S.length == k) (fun S => decide (img p S = S)) = ct (subs n) (sz p k) := by
    rw [ct_filter, ct_filter, List.filter_filter]
    congr 1
    refine List.filter_congr fun S hS => ?_
    unfold sz
    by_cases q : S.length = k
    · have hs : IsSet n k S := ⟨(mem_subs.mp hS).1, (mem_subs.mp hS).2, q⟩
      have : decide (img p S = S) = cl p S := by
        rw [Bool.eq_iff_iff, decide_eq_true_iff, cl_iff]
        exact img_eq_iff hp hs
      rw [this, Bool.and_comm]
    · have : (S.length == k) = false := by simpa using q
      rw [this, Bool.and_false, Bool.false_and]
  rw [e, ct_subs n (sz_ord p k)]
  exact cnt_perm (List.reverse_perm _) (sz_ord p k)

/-! ### rings -/
def iter (p : List Nat) (x : Nat) : Nat → Nat
  | 0 => x
  | j + 1 => app p (iter p x j)
def ringN (p : List Nat) (pt : Nat) : Nat → List Nat × Nat
  | 0 => ([pt], app p pt)
  | t + 1 => if (ringN p pt t).2 = pt then ringN p pt t else ((ringN p pt t).1 ++ [(ringN p pt t).2], app p (ringN p pt t).2)
def ring (n : Nat) (p : List Nat) (pt : Nat) : List Nat := (ringN p pt n).1
section
variable {n : Nat} {p : List Nat} {pt : Nat}
theorem iter_lt (P : IsPerm n p) (h : pt < n) : ∀ j, iter p pt j < n
  | 0 => h
  | j + 1 => P.lt (iter_lt P h j)
theorem iter_back (P : IsPerm n p) (h : pt < n) : ∀ (i d : Nat), iter p pt i = iter p pt (i + d) → pt = iter p pt d
  | 0, d, e => by rw [Nat.zero_add] at e; exact e
  | i + 1, d, e => by
    refine iter_back P h i d (P.inj (iter_lt P h i) (iter_lt P h (i + d)) ?_)
    rw [Nat.add_right_comm] at e
    exact e
theorem iter_nodup (P : IsPerm n p) (h : pt < n) {m : Nat} (hm : ∀ j, 1 ≤ j → j < m → iter p pt j ≠ pt) : ((List.range m).map (iter p pt)).Nodup := by
  refine nodup_map_of_inj List.nodup_range fun a ha b hb e => ?_
  have ha := List.mem_range.mp ha
  have hb := List.mem_range.mp hb
  rcases Nat.lt_trichotomy a b with q | q | q
  · refine absurd (iter_back P h a (b - a) ?_).symm (hm (b - a) (by omega) (by omega))
    rw [e]; congr 1; omega
  · exact q
  · refine absurd (iter_back P h b (a - b) ?_).symm (hm (a - b) (by omega) (by omega))
    rw [← e]; congr 1; omega
theorem ringN_spec : ∀ t : Nat,
    ((ringN p pt t).1 = (List.range (t + 1)).map (iter p pt) ∧ (ringN p pt t).2 = iter p pt (t + 1) ∧ ∀ j, 1 ≤ j → j < t + 1 → iter p pt j ≠ pt) ∨
    ∃ m, 1 ≤ m ∧ m ≤ t ∧ iter p pt m = pt ∧ (∀ j, 1 ≤ j → j < m → iter p pt j ≠ pt) ∧ (ringN p pt t).1 = (List.range m).map (iter p pt) ∧ (ringN p pt t).2 = pt
  | 0 => .inl ⟨rfl, rfl, fun j h1 h2 => by omega⟩
  | t + 1 => by
    rcases ringN_spec t with ⟨e1, e2, h⟩ | ⟨m, m1, m2, e, h, e1, e2⟩
    · by_cases q : (ringN p pt t).2 = pt
      · refine .inr ⟨t + 1, by omega, by omega, by rw [← e2, q], h, ?_, ?_⟩
        · unfold ringN
          rw [if_pos q, e1]
        · unfold ringN
          rw [if_pos q, q]
      · refine .inl ⟨?_, ?_, fun j h1 h2 => ?_⟩
        · unfold ringN
          rw [if_neg q]
          show (ringN p pt t).1 ++ [(ringN p pt t).2] = _
          rw [e1, e2, List.range_succ (n := t + 1), List.map_append]
          rfl
        · unfold ringN
          rw [if_neg q]
          show app p (ringN p pt t).2 = _
          rw [e2]
          rfl
        · rcases Nat.lt_or_ge j (t + 1) with z | z
          · exact h j h1 z
          · have : j = t + 1 := by omega
            rw [this, ← e2]
            exact q
    · refine .inr ⟨m, m1, by omega, e, h, ?_, ?_⟩
      · unfold ringN
        rw [if_pos e2, e1]
      · unfold ringN
        rw [if_pos e2, e2]
structure Ring (n : Nat) (p : List Nat) (pt : Nat) (r : List Nat) : Prop where
  nd : r.Nodup
  bd : ∀ x ∈ r, x < n
  has : pt ∈ r
  cl : ∀ x ∈ r, app p x ∈ r
  /-- what is kept and meets the ring has the whole ring -/
  all : ∀ A : List Nat, (∀ x ∈ A, x ∈ r → app p x ∈ A) → ∀ x ∈ r, x ∈ A → ∀ y ∈ r, y ∈ A
theorem ring_spec (P : IsPerm n p) (h : pt < n) : Ring n p pt (ring n p pt) := by
  rcases ringN_spec (p := p) (pt := pt) n with ⟨_, _, hm⟩ | ⟨m, m1, m2, e, hm, e1, _⟩
  · have := count_le_of_nodup_subset _ (List.range n) (iter_nodup P h hm) fun x hx => by
      obtain ⟨j, _, rfl⟩ := List.mem_map.mp hx
      exact List.mem_range.mpr (iter_lt P h j)
    rw [List.length_map, List.length_range, List.length_range] at this
    omega
  · unfold ring
    rw [e1]
    refine ⟨iter_nodup P h hm, fun x hx => ?_, ?_, fun x hx => ?_, fun A hA x hx hxA y hy => ?_⟩
    · obtain ⟨j, _, rfl⟩ := List.mem_map.mp hx
      exact iter_lt P h j
    · exact List.mem_map.mpr ⟨0, List.mem_range.mpr m1, rfl⟩
    · obtain ⟨j, hj, rfl⟩ := List.mem_map.mp hx
      have hj := List.mem_range.mp hj
      rcases Nat.lt_or_ge (j + 1) m with q | q
      · exact List.mem_map.mpr ⟨j + 1, List.mem_range.mpr q, rfl⟩
      · refine List.mem_map.mpr ⟨0, List.mem_range.mpr m1, ?_⟩
        have : m = j + 1 := by omega
        rw [this] at e
        exact e.symm
    · obtain ⟨j, hj, rfl⟩ := List.mem_map.mp hx
      obtain ⟨i, hi, rfl⟩ := List.mem_map.mp hy
      have hj := List.mem_range.mp hj
      have hi := List.mem_range.mp hi
      have hr : ∀ t, t < m → iter p pt t ∈ (List.range m).map (iter p pt) := fun t ht => List.mem_map.mpr ⟨t, List.mem_range.mpr ht, rfl⟩
      -- from j up to m
      have up : ∀ d, j + d ≤ m → iter p pt (j + d) ∈ A := by
        intro d
        induction d with
        | zero => intro _; exact hxA
        | succ d ih =>
          intro hd
          exact hA _ (ih (by omega)) (hr (j + d) (by omega))
      have h0 : pt ∈ A := by
        have := up (m - j) (by omega)
        rwa [show j + (m - j) = m by omega, e] at this
      have up0 : ∀ d, d ≤ m → iter p pt d ∈ A := by
        intro d
        induction d with
        | zero => intro _; exact h0
        | succ d ih =>
          intro hd
          exact hA _ (ih (by omega)) (hr _ (by omega))
      exact up0 i (by omega)

/-! ### the numbers of kept sets, as the law reckons them -/
def keptStep (n size : Nat) (kept : List Nat) : List Nat := (List.range (n + 1)).map fun k => kept.getD k 0 + (if size ≤ k then kept.getD (k - size) 0 else 0)
def keptGo (n : Nat) (p : List Nat) : Nat → List Nat × List Nat
  | 0 => (1 :: List.replicate n 0, [])
  | i + 1 => if i ∈ (keptGo n p i).2 then keptGo n p i else (keptStep n (ring n p i).length (keptGo n p i).1, (keptGo n p i).2 ++ ring n p i)
def kept (n : Nat) (p : List Nat) : List Nat := (keptGo n p n).1
theorem keptStep_len (n size : Nat) (l : List Nat) : (keptStep n size l).length = n + 1 := by
  unfold keptStep
  rw [List.length_map, List.length_range]
theorem keptGo_len (n : Nat) (p : List Nat) : ∀ i, (keptGo n p i).1.length = n + 1
  | 0 => by simp [keptGo]
  | i + 1 => by
    unfold keptGo
    split
    · exact keptGo_len n p i
    · exact keptStep_len _ _ _
theorem keptStep_get {n size k : Nat} {l : List Nat} (h : k ≤ n) : (keptStep n size l).getD k 0 = l.getD k 0 + (if size ≤ k then l.getD (k - size) 0 else 0) := by
  unfold keptStep
  rw [List.getD_eq_getElem?_getD, List.getElem?_map, List.getElem?_range (by omega)]
  rfl
structure KeptInv (n : Nat) (p : List Nat) (i : Nat) (kp seen : List Nat) : Prop where
  nd : seen.Nodup
  bd : ∀ x ∈ seen, x < n
  cl : ∀ x ∈ seen, app p x ∈ seen
  all : ∀ j, j < i → j ∈ seen
  val : ∀ k, k ≤ n → kp.getD k 0 = cnt seen (sz p k)
theorem cnt_ring (P : IsPerm n p) {seen r : List Nat} (hs : ∀ x ∈ seen, app p x ∈ seen) (hd : ∀ x ∈ r, x ∉ seen) (R : Ring n p pt r) (k : Nat) :
    cnt (seen ++ r) (sz p k) = cnt seen (sz p k) + (if r.length ≤ k then cnt seen (sz p (k - r.length)) else 0) := by
  rw [cnt_perm (List.perm_append_comm) (sz_ord p k)]
  have hr : r ≠ [] := fun e => by
    have := R.has
    rw [e] at this
    cases this
  rw [cnt_two hr]
  · congr 1
    split
    · rename_i hk
      refine cnt_congr fun B hB => ?_
      unfold sz
      have c : cl p (r ++ B) = cl p B := by
        rw [Bool.eq_iff_iff, cl_iff, cl_iff]
        constructor
        · intro q x hx
          rcases List.mem_append.mp (q x (List.mem_append.mpr (.inr hx))) with z | z
          · exact absurd (hs x (hB.subset hx)) (hd _ z)
          · exact z
        · intro q x hx
          rcases List.mem_append.mp hx with z | z
          · exact List.mem_append.mpr (.inl (R.cl x z))
          · exact List.mem_append.mpr (.inr (q x z))
      rw [c, List.length_append]
      congr 1
      rw [Bool.eq_iff_iff, beq_iff_eq, beq_iff_eq]
      omega
    · rename_i hk
      refine cnt_zero fun B _ => ?_
      unfold sz
      have : ((r ++ B).length == k) = false := by
        rw [beq_eq_false_iff_ne, List.length_append]
        omega
      rw [this, Bool.false_and]
  · intro A hA hne hnr B hB
    cases e : sz p k (A ++ B) with
    | false => rfl
    | true =>
      exfalso
      unfold sz at e
      have hc := cl_iff.mp (Bool.and_eq_true_iff.mp e).2
      -- A is kept
      have hA' : ∀ x ∈ A, x ∈ r → app p x ∈ A := fun x hx hxr => by
        rcases List.mem_append.mp (hc x (List.mem_append.mpr (.inl hx))) with z | z
        · exact z
        · exact absurd (hB.subset z) (hd _ (R.cl x hxr))
      obtain ⟨x, hx⟩ := List.exists_mem_of_ne_nil A hne
      have all := R.all A hA' x (hA.subset hx) hx
      refine hnr (hA.eq_of_length ?_)
      have a := hA.length_le
      have b := count_le_of_nodup_subset r A R.nd fun y hy => all y hy
      omega
theorem keptGo_spec (P : IsPerm n p) : ∀ i, i ≤ n → KeptInv n p i (keptGo n p i).1 (keptGo n p i).2
  | 0, _ => by
    refine ⟨List.nodup_nil, fun x hx => (nomatch hx), fun x hx => (nomatch hx), fun j hj => absurd hj (Nat.not_lt_zero _), fun k hk => ?_⟩
    show (1 :: List.replicate n 0).getD k 0 = cnt [] (sz p k)
    cases k with
    | zero => rfl
    | succ k =>
      rw [List.getD_cons_succ, List.getD_eq_getElem?_getD]
      have : (List.replicate n 0)[k]?.getD 0 = 0 := by
        rw [List.getElem?_replicate]
        split <;> rfl
      rw [this]
      rfl
  | i + 1, hi => by
    have I := keptGo_spec P i (by omega)
    unfold keptGo
    by_cases q : i ∈ (keptGo n p i).2
    · rw [if_pos q]
      refine ⟨I.nd, I.bd, I.cl, fun j hj => ?_, I.val⟩
      rcases Nat.lt_or_ge j i with z | z
      · exact I.all j z
      · rw [show j = i by omega]
        exact q
    · rw [if_neg q]
      have R := ring_spec P (pt := i) (by omega)
      have hd : ∀ x ∈ ring n p i, x ∉ (keptGo n p i).2 := fun x hx hs => q (R.all (keptGo n p i).2 (fun y hy _ => I.cl y hy) x hx hs i R.has)
      refine ⟨List.nodup_append.mpr ⟨I.nd, R.nd, fun a ha b hb e => hd b hb (e ▸ ha)⟩, fun x hx => ?_, fun x hx => ?_, fun j hj => ?_, fun k hk => ?_⟩
      · rcases List.mem_append.mp hx with z | z
        · exact I.bd x z
        · exact R.bd x z
      · rcases List.mem_append.mp hx with z | z
        · exact List.mem_append.mpr (.inl (I.cl x z))
        · exact List.mem_append.mpr (.inr (R.cl x z))
      · rcases Nat.lt_or_ge j i with z | z
        · exact List.mem_append.mpr (.inl (I.all j z))
        · rw [show j = i by omega]
          exact List.mem_append.mpr (.inr R.has)
      · show (keptStep n (ring n p i).length (keptGo n p i).1).getD k 0 = _
        rw [keptStep_get hk, I.val k hk, cnt_ring P I.cl hd R k]
        congr 1
        split
        · exact I.val _ (by omega)
        · rfl
theorem kept_fixed (P : IsPerm n p) {k : Nat} (hk : k ≤ n) : (kept n p).getD k 0 = fixed n k p := by
  have I := keptGo_spec P n (Nat.le_refl n)
  rw [fixed_cnt P]
  show (keptGo n p n).1.getD k 0 = _
  rw [I.val k hk]
  refine cnt_perm (perm_of_nodup_subset _ _ I.nd (fun x hx => List.mem_range.mpr (I.bd x hx)) ?_) (sz_ord p k)
  exact count_le_of_nodup_subset _ _ List.nodup_range fun x hx => I.all x (List.mem_range.mp hx)
end
end KM

namespace KM
/-! ### complements -/
def comp (n : Nat) (S : List Nat) : List Nat := (List.range n).filter fun x => !S.contains x
theorem mem_comp {n x : Nat} {S : List Nat} : x ∈ comp n S ↔ x < n ∧ x ∉ S := by
  unfold comp
  rw [List.mem_filter, List.mem_range]
  simp
theorem comp_set {n k : Nat} {S : List Nat} (h : IsSet n k S) (hk : k ≤ n) : IsSet n (n - k) (comp n S) := by
  refine ⟨List.Pairwise.filter _ List.pairwise_lt_range, fun x hx => (mem_comp.mp hx).1, ?_⟩
  have a : ((List.range n).filter fun x => S.contains x).Perm S := by
    refine perm_of_nodup_subset _ _ (List.nodup_range.sublist List.filter_sublist) (fun x hx => by simpa using (List.mem_filter.mp hx).2) ?_
    exact count_le_of_nodup_subset _ _ h.nd fun x hx => List.mem_filter.mpr ⟨List.mem_range.mpr (h.bd x hx), by simpa using hx⟩
  have b := ct_filter (List.range n) fun x => S.contains x
  have c := ct_filter (List.range n) fun x => !S.contains x
  have d : ct (List.range n) (fun x => S.contains x) + ct (List.range n) (fun x => !S.contains x) = n := by
    unfold ct
    rw [← sm_add]
    have : sm (List.range n) (fun x => (if S.contains x = true then 1 else 0) + (if (!S.contains x) = true then 1 else 0)) = sm (List.range n) (fun _ => 1) := sm_congr fun x _ => by
      cases S.contains x <;> rfl
    rw [this, sm_const, List.length_range, Nat.mul_one]
  rw [b, c, a.length_eq, h.len] at d
  unfold comp
  omega
theorem comp_comp {n k : Nat} {S : List Nat} (h : IsSet n k S) (hk : k ≤ n) : comp n (comp n S) = S := by
  have h2 := comp_set (comp_set h hk) (Nat.sub_le n k)
  refine asc_unique ?_ h2.le h.le
  refine perm_of_nodup_subset _ _ h2.nd (fun x hx => ?_) (by rw [h2.len, h.len]; omega)
  obtain ⟨a, b⟩ := mem_comp.mp hx
  cases Decidable.em (x ∈ S) with
  | inl q => exact q
  | inr q => exact absurd (mem_comp.mpr ⟨a, q⟩) b
theorem img_comp {n k : Nat} {p S : List Nat} (P : IsPerm n p) (h : IsSet n k S) (hk : k ≤ n) (e : img p S = S) : img p (comp n S) = comp n S := by
  rw [img_eq_iff P (comp_set h hk)]
  intro x hx
  obtain ⟨a, b⟩ := mem_comp.mp hx
  refine mem_comp.mpr ⟨P.lt a, fun hm => b ?_⟩
  rw [← e] at hm
  obtain ⟨z, hz, q⟩ := mem_img.mp hm
  rw [← P.inj (h.bd z hz) a q]
  exact hz
theorem fixed_comp {n k : Nat} {p : List Nat} (P : IsPerm n p) (hk : k ≤ n) : fixed n k p = fixed n (n - k) p := by
  have hp : ((ksets n k).map (comp n)).Perm (ksets n (n - k)) := by
    have nd : ((ksets n k).map (comp n)).Nodup := nodup_map_of_inj (ksets_nd n k) fun a ha b hb e => by
      rw [← comp_comp (mem_ksets.mp ha) hk, ← comp_comp (mem_ksets.mp hb) hk, e]
    refine perm_of_nodup_subset _ _ nd (fun x hx => ?_) ?_
    · obtain ⟨S, hS, rfl⟩ := List.mem_map.mp hx
      exact mem_ksets.mpr (comp_set (mem_ksets.mp hS) hk)
    · refine count_le_of_nodup_subset _ _ (ksets_nd _ _) fun T hT => ?_
      have hT' := mem_ksets.mp hT
      have := comp_set hT' (Nat.sub_le n k)
      rw [show n - (n - k) = k by omega] at this
      exact List.mem_map.mpr ⟨_, mem_ksets.mpr this, comp_comp hT' (Nat.sub_le n k)⟩
  unfold fixed
  rw [← ct_perm hp]
  unfold ct
  rw [sm_map]
  refine sm_congr fun S hS => ?_
  have hS' := mem_ksets.mp hS
  have : decide (img p S = S) = decide (img p (comp n S) = comp n S) := by
    rw [Bool.eq_iff_iff, decide_eq_true_iff, decide_eq_true_iff]
    refine ⟨img_comp P hS' hk, fun e => ?_⟩
    have := img_comp P (comp_set hS' hk) (Nat.sub_le n k) e
    rwa [comp_comp hS' hk] at this
  show (if decide (img p S = S) = true then 1 else 0) = if decide (img p (comp n S) = comp n S) = true then 1 else 0
  rw [this]
theorem Clo.comp {n : Nat} {gens E : List (List Nat)} (C : Clo n gens E) {k : Nat} (hk : k ≤ n) : (leasts E n k).length = (leasts E n (n - k)).length := by
  rw [← C.count k, ← C.count (n - k)]
  congr 1
  exact sm_congr fun x hx => fixed_comp (C.perm hx) hk

/-! ### sums of whole numbers -/
def sI {α : Type} (l : List α) (f : α → Int) : Int := (l.map f).sum
theorem sI_nil {α : Type} (f : α → Int) : sI [] f = 0 := rfl
theorem sI_cons {α : Type} (x : α) (l : List α) (f : α → Int) : sI (x :: l) f = f x + sI l f := by
  unfold sI
  rw [List.map_cons, List.sum_cons]
theorem sI_congr {α : Type} {l : List α} {f g : α → Int} (h : ∀ x ∈ l, f x = g x) : sI l f = sI l g := by
  unfold sI
  rw [List.map_congr_left h]
theorem sI_zero {α : Type} (l : List α) : sI l (fun _ => 0) = 0 := by
  induction l with
  | nil => rfl
  | cons x l ih => rw [sI_cons, ih]; rfl
theorem sI_add {α : Type} (l : List α) (f g : α → Int) : sI l (fun x => f x + g x) = sI l f + sI l g := by
  induction l with
  | nil => rfl
  | cons x l ih =>
    rw [sI_cons, sI_cons, sI_cons, ih]
    omega
theorem sI_mul {α : Type} (l : List α) (c : Int) (f : α → Int) : sI l (fun x => c * f x) = c * sI l f := by
  induction l with
  | nil => rw [sI_nil, sI_nil, Int.mul_zero]
  | cons x l ih => rw [sI_cons, sI_cons, ih, Int.mul_add]
theorem sI_swap {α β : Type} (l : List α) (m : List β) (f : α → β → Int) : sI l (fun a => sI m (fun b => f a b)) = sI m (fun b => sI l (fun a => f a b)) := by
  induction l with
  | nil => rw [sI_nil]; exact (sI_zero m).symm
  | cons x l ih =>
    rw [sI_cons, ih, ← sI_add]
    exact sI_congr fun b _ => (sI_cons x l (fun a => f a b)).symm
theorem sI_perm {α : Type} {a b : List α} (h : a.Perm b) (f : α → Int) : sI a f = sI b f := by
  induction h with
  | nil => rfl
  | cons x _ ih => rw [sI_cons, sI_cons, ih]
  | swap x y l => rw [sI_cons, sI_cons, sI_cons, sI_cons]; omega
  | trans _ _ h1 h2 => rw [h1, h2]
theorem sI_map {α β : Type} (g : α → β) (l : List α) (f : β → Int) : sI (l.map g) f = sI l (fun x => f (g x)) := by
  unfold sI
  rw [List.map_map]
  rfl
theorem sI_one {α : Type} [DecidableEq α] {l : List α} {f : α → Int} {y : α} (hn : l.Nodup) (hy : y ∈ l) (h : ∀ x ∈ l, x ≠ y → f x = 0) : sI l f = f y := by
  induction l with
  | nil => cases hy
  | cons x l ih =>
    have hn' := List.nodup_cons.mp hn
    rw [sI_cons]
    by_cases hx : x = y
    · subst hx
      have : sI l f = sI l (fun _ => 0) := sI_congr fun z hz => h z (List.mem_cons_of_mem _ hz) fun q => hn'.1 (q ▸ hz)
      rw [this, sI_zero]
      omega
    · have hy' : y ∈ l := by
        rcases List.mem_cons.mp hy with q | q
        · exact absurd q.symm hx
        · exact q
      rw [ih hn'.2 hy' fun z hz => h z (List.mem_cons_of_mem _ hz), h x List.mem_cons_self hx]
      omega
/-! ### fewer equations than unknowns: a solution that is not nought -/
theorem solve {α : Type} [DecidableEq α] : ∀ (eqs : List (α → Int)) (idx : List α), idx.Nodup → eqs.length < idx.length →
    ∃ c : α → Int, (∃ i ∈ idx, c i ≠ 0) ∧ ∀ e ∈ eqs, sI idx (fun i => e i * c i) = 0
  | [], idx, _, hl => by
    cases idx with
    | nil => simp at hl
    | cons i l => exact ⟨fun _ => 1, ⟨i, List.mem_cons_self, Int.one_ne_zero⟩, fun e he => (nomatch he)⟩
  | e :: es, idx, hn, hl => by
    by_cases hz : ∀ i ∈ idx, e i = 0
    · obtain ⟨c, h1, h2⟩ := solve es idx hn (by rw [List.length_cons] at hl; omega)
      refine ⟨c, h1, fun e' he => ?_⟩
      rcases List.mem_cons.mp he with rfl | he
      · rw [← sI_zero idx]
        exact sI_congr fun i hi => by rw [hz i hi, Int.zero_mul]
      · exact h2 e' he
    · obtain ⟨i0, hi0, hne⟩ : ∃ i ∈ idx, e i ≠ 0 := by
        refine Classical.byContradiction fun q => hz fun i hi => ?_
        exact Classical.byContradiction fun z => q ⟨i, hi, z⟩
      have hp := List.perm_cons_erase hi0
      have hnd := (hp.nodup_iff.mp hn)
      have hnd' := List.nodup_cons.mp hnd
      have hlen := hp.length_eq
      rw [List.length_cons] at hlen
      obtain ⟨c, ⟨j, hj, hcj⟩, h2⟩ := solve (es.map fun e' i => e i0 * e' i - e' i0 * e i) (idx.erase i0) hnd'.2 (by
        rw [List.length_map]
        rw [List.length_cons] at hl
        omega)
      have hjne : j ≠ i0 := fun q => hnd'.1 (q ▸ hj)
      let s : Int := sI (idx.erase i0) fun i => e i * c i
      refine ⟨fun i => if i = i0 then - s else e i0 * c i, ⟨j, List.mem_of_mem_erase hj, ?_⟩, fun e' he => ?_⟩
      · show (if j = i0 then - s else e i0 * c j) ≠ 0
        rw [if_neg hjne]
        exact Int.mul_ne_zero hne hcj
      · rw [sI_perm hp, sI_cons]
        show e' i0 * (if i0 = i0 then - s else e i0 * c i0) + sI (idx.erase i0) (fun i => e' i * (if i = i0 then - s else e i0 * c i)) = 0
        rw [if_pos rfl]
        have q : sI (idx.erase i0) (fun i => e' i * (if i = i0 then - s else e i0 * c i)) = sI (idx.erase i0) (fun i => e i0 * (e' i * c i)) := sI_congr fun i hi => by
          have : i ≠ i0 := fun q => hnd'.1 (q ▸ hi)
          rw [if_neg this, ← Int.mul_assoc, ← Int.mul_assoc, Int.mul_comm (e' i) (e i0)]
        rw [q, sI_mul]
        rcases List.mem_cons.mp he with rfl | he
        · show e' i0 * - s + e' i0 * s = 0
          rw [Int.mul_neg]
          omega
        · have z := h2 _ (List.mem_map.mpr ⟨e', he, rfl⟩)
          have z2 : sI (idx.erase i0) (fun i => (e i0 * e' i - e' i0 * e i) * c i) = e i0 * sI (idx.erase i0) (fun i => e' i * c i) + (- e' i0) * s := by
            show _ = _ + (- e' i0) * sI (idx.erase i0) fun i => e i * c i
            rw [← sI_mul, ← sI_mul, ← sI_add]
            refine sI_congr fun i _ => ?_
            rw [Int.sub_mul, Int.mul_assoc, Int.mul_assoc, Int.neg_mul]
            rfl
          rw [z2] at z
          rw [Int.mul_neg]
          rw [Int.neg_mul] at z
          omega
termination_by eqs => eqs.length
decreasing_by
  · simp
  · simp

/-! ### the numbers do not fall up to the middle -/
def sub (T S : List Nat) : Bool := T.all fun x => S.contains x
theorem sub_iff {T S : List Nat} : sub T S = true ↔ ∀ x ∈ T, x ∈ S := by
  unfold sub
  rw [List.all_eq_true]
  exact ⟨fun h x hx => by simpa using h x hx, fun h x hx => by simpa using h x hx⟩
/-- how many points of T lie outside S -/
def out (T S : List Nat) : Nat := (T.filter fun x => !S.contains x).length
/-- a left inverse of inclusion, up to the factor d -/
def LeftInv (n m : Nat) (w : Nat → Int) (d : Int) : Prop :=
  d ≠ 0 ∧ ∀ T0 ∈ ksets n m, ∀ T ∈ ksets n m, sI (ksets n (m + 1)) (fun S => w (out T0 S) * (if sub T S = true then 1 else 0)) = if T = T0 then d else 0
section
variable {n : Nat} {gens E : List (List Nat)}
/-- T is an image of R -/
def rel (E : List (List Nat)) (R T : List Nat) : Bool := E.any fun x => decide (img x R = T)
theorem rel_iff {R T : List Nat} : rel E R T = true ↔ ∃ x ∈ E, img x R = T := by
  unfold rel
  rw [List.any_eq_true]
  exact ⟨fun ⟨x, hx, e⟩ => ⟨x, hx, of_decide_eq_true e⟩, fun ⟨x, hx, e⟩ => ⟨x, hx, decide_eq_true e⟩⟩
theorem Clo.rel_img (C : Clo n gens E) {k : Nat} {R T x : List Nat} (hR : IsSet n k R) (hT : IsSet n k T) (hx : x ∈ E) : rel E R (img x T) = rel E R T := by
  rw [Bool.eq_iff_iff, rel_iff, rel_iff]
  constructor
  · rintro ⟨y, hy, e⟩
    obtain ⟨z, hz, q⟩ := C.back hT hx
    exact ⟨_, C.mul hy hz, by rw [img_mul (C.perm hy) hR, e, q]⟩
  · rintro ⟨y, hy, e⟩
    exact ⟨_, C.mul hy hx, by rw [img_mul (C.perm hy) hR, e]⟩
theorem Clo.img_perm (C : Clo n gens E) {k : Nat} {x : List Nat} (hx : x ∈ E) : ((ksets n k).map (img x)).Perm (ksets n k) := by
  refine map_perm_of_inj (ksets_nd n k) (fun a ha b hb e => ?_) fun a ha => mem_ksets.mpr (img_set (C.perm hx) (mem_ksets.mp ha))
  obtain ⟨y, hy, q⟩ := C.inv hx
  have a' := mem_ksets.mp ha
  have b' := mem_ksets.mp hb
  rw [← img_unit a', ← img_unit b', ← q, img_mul (C.perm hx) a', img_mul (C.perm hx) b', e]
theorem sub_img {k l : Nat} {x T S : List Nat} (hx : IsPerm n x) (hT : IsSet n k T) (hS : IsSet n l S) : sub (img x T) (img x S) = sub T S := by
  rw [Bool.eq_iff_iff, sub_iff, sub_iff]
  constructor
  · intro h y hy
    obtain ⟨z, hz, e⟩ := mem_img.mp (h _ (mem_img.mpr ⟨y, hy, rfl⟩))
    rw [← hx.inj (hS.bd z hz) (hT.bd y hy) e]
    exact hz
  · intro h y hy
    obtain ⟨z, hz, rfl⟩ := mem_img.mp hy
    exact mem_img.mpr ⟨z, h z hz, rfl⟩
theorem Clo.mono (C : Clo n gens E) {m : Nat} {w : Nat → Int} {d : Int} (L : LeftInv n m w d) : (leasts E n m).length ≤ (leasts E n (m + 1)).length := by
  refine Nat.le_of_not_lt fun hlt => ?_
  obtain ⟨c, ⟨R0, hR0, hc⟩, h⟩ := solve ((leasts E n (m + 1)).map fun S R => sI (ksets n m) fun T => if sub T S = true then (if rel E R T = true then 1 else 0) else 0) (leasts E n m) (leasts_nd m) (by rw [List.length_map]; exact hlt)
  let f : List Nat → Int := fun T => sI (leasts E n m) fun R => (if rel E R T = true then 1 else 0) * c R
  -- f is the same on images
  have finv : ∀ x ∈ E, ∀ T, IsSet n m T → f (img x T) = f T := fun x hx T hT => sI_congr fun R hR => by
    rw [C.rel_img (mem_leasts.mp hR).1 hT hx]
  let U : List Nat → Int := fun S => sI (ksets n m) fun T => (if sub T S = true then 1 else 0) * f T
  have u0 : ∀ S ∈ leasts E n (m + 1), U S = 0 := fun S hS => by
    have z := h _ (List.mem_map.mpr ⟨S, hS, rfl⟩)
    rw [← z]
    have a : U S = sI (ksets n m) fun T => sI (leasts E n m) fun R => (if sub T S = true then (if rel E R T = true then 1 else 0) else 0) * c R := sI_congr fun T _ => by
      show _ * sI _ _ = _
      rw [← sI_mul]
      refine sI_congr fun R _ => ?_
      cases sub T S
      · rw [if_neg Bool.false_ne_true, if_neg Bool.false_ne_true, Int.zero_mul, Int.zero_mul]
      · rw [if_pos rfl, if_pos rfl, Int.one_mul]
    rw [a, sI_swap]
    refine sI_congr fun R _ => ?_
    rw [Int.mul_comm, ← sI_mul]
    refine sI_congr fun T _ => ?_
    rw [Int.mul_comm]
  have u1 : ∀ S ∈ ksets n (m + 1), U S = 0 := fun S hS => by
    obtain ⟨R, hR, x, hx, rfl⟩ := C.least (mem_ksets.mp hS)
    rw [← u0 R hR]
    show sI _ _ = sI _ _
    rw [← sI_perm (C.img_perm (k := m) hx), sI_map]
    refine sI_congr fun T hT => ?_
    rw [sub_img (C.perm hx) (mem_ksets.mp hT) (mem_leasts.mp hR).1, finv x hx T (mem_ksets.mp hT)]
  have r0 := (mem_leasts.mp hR0).1
  have z1 : sI (ksets n (m + 1)) (fun S => w (out R0 S) * U S) = 0 := by
    rw [← sI_zero (ksets n (m + 1))]
    exact sI_congr fun S hS => by rw [u1 S hS, Int.mul_zero]
  have z2 : sI (ksets n (m + 1)) (fun S => w (out R0 S) * U S) = sI (ksets n m) fun T => (if T = R0 then d else 0) * f T := by
    have a : sI (ksets n (m + 1)) (fun S => w (out R0 S) * U S) = sI (ksets n (m + 1)) fun S => sI (ksets n m) fun T => f T * (w (out R0 S) * (if sub T S = true then 1 else 0)) := sI_congr fun S _ => by
      show _ * sI _ _ = _
      rw [← sI_mul]
      refine sI_congr fun T _ => ?_
      rw [← Int.mul_assoc, Int.mul_comm]
    rw [a, sI_swap]
    refine sI_congr fun T hT => ?_
    rw [sI_mul, L.2 R0 (mem_ksets.mpr r0) T hT, Int.mul_comm]
  have z3 : sI (ksets n m) (fun T => (if T = R0 then d else 0) * f T) = d * f R0 := by
    rw [sI_one (ksets_nd n m) (mem_ksets.mpr r0) fun T _ ne => by rw [if_neg ne, Int.zero_mul], if_pos rfl]
  have z4 : f R0 = c R0 := by
    show sI _ _ = _
    rw [sI_one (leasts_nd m) hR0 fun R hR ne => ?_]
    · have : rel E R0 R0 = true := rel_iff.mpr ⟨_, C.one, img_unit r0⟩
      rw [this, if_pos rfl, Int.one_mul]
    · have : rel E R R0 = false := by
        cases q : rel E R R0 with
        | false => rfl
        | true =>
          obtain ⟨x, hx, e⟩ := rel_iff.mp q
          exact absurd (C.least_unique hR hR0 hx C.one (e.trans (img_unit r0).symm)) ne
      rw [this, if_neg (by decide), Int.zero_mul]
  rw [z2, z3, z4] at z1
  rcases Int.mul_eq_zero.mp z1 with q | q
  · exact L.1 q
  · exact hc q
end
def wOf : Nat → Nat → List Int × Int
  | 2, 0 => ([1], 2) | 3, 0 => ([1], 3) | 4, 0 => ([1], 4) | 5, 0 => ([1], 5) | 6, 0 => ([1], 6) | 7, 0 => ([1], 7)
  | 4, 1 => ([2, -1], 6) | 5, 1 => ([3, -1], 12) | 6, 1 => ([4, -1], 20) | 7, 1 => ([5, -1], 30)
  | 6, 2 => ([3, -1, 1], 12) | 7, 2 => ([12, -3, 2], 60)
  | _, _ => ([], 1)
def chkL (n m : Nat) (w : List Int) (d : Int) : Bool :=
  decide (d ≠ 0) && (ksets n m).all fun T => (fun F => (ksets n m).all fun T0 => decide (sI F (fun S => w.getD (out T0 S) 0) = if T = T0 then d else 0)) ((ksets n (m + 1)).filter (sub T))
theorem sI_filter {α : Type} (l : List α) (p : α → Bool) (f : α → Int) : sI (l.filter p) f = sI l fun x => f x * (if p x = true then 1 else 0) := by
  induction l with
  | nil => rfl
  | cons x l ih =>
    rw [sI_cons, List.filter_cons]
    cases q : p x
    · rw [if_neg Bool.false_ne_true, if_neg Bool.false_ne_true, ih]
      omega
    · rw [if_pos rfl, if_pos rfl, sI_cons, ih]
      omega
theorem leftInv_of {n m : Nat} {w : List Int} {d : Int} (h : chkL n m w d = true) : LeftInv n m (fun j => w.getD j 0) d := by
  unfold chkL at h
  obtain ⟨h1, h2⟩ := Bool.and_eq_true_iff.mp h
  refine ⟨of_decide_eq_true h1, fun T0 hT0 T hT => ?_⟩
  rw [← sI_filter]
  exact of_decide_eq_true (List.all_eq_true.mp (List.all_eq_true.mp h2 T hT) T0 hT0)
theorem l20 : chkL 2 0 (wOf 2 0).1 (wOf 2 0).2 = true := by decide +kernel
theorem l30 : chkL 3 0 (wOf 3 0).1 (wOf 3 0).2 = true := by decide +kernel
theorem l40 : chkL 4 0 (wOf 4 0).1 (wOf 4 0).2 = true := by decide +kernel
theorem l50 : chkL 5 0 (wOf 5 0).1 (wOf 5 0).2 = true := by decide +kernel
theorem l60 : chkL 6 0 (wOf 6 0).1 (wOf 6 0).2 = true := by decide +kernel
theorem l70 : chkL 7 0 (wOf 7 0).1 (wOf 7 0).2 = true := by decide +kernel
theorem l41 : chkL 4 1 (wOf 4 1).1 (wOf 4 1).2 = true := by decide +kernel
theorem l51 : chkL 5 1 (wOf 5 1).1 (wOf 5 1).2 = true := by decide +kernel
theorem l61 : chkL 6 1 (wOf 6 1).1 (wOf 6 1).2 = true := by decide +kernel
theorem l71 : chkL 7 1 (wOf 7 1).1 (wOf 7 1).2 = true := by decide +kernel
theorem l62 : chkL 6 2 (wOf 6 2).1 (wOf 6 2).2 = true := by decide +kernel
theorem l72 : chkL 7 2 (wOf 7 2).1 (wOf 7 2).2 = true := by decide +kernel
theorem Clo.rise {n : Nat} {gens E : List (List Nat)} (C : Clo n gens E) (hn : n ≤ 7) {m : Nat} (h : 2 * (m + 1) ≤ n + 1) : (leasts E n m).length ≤ (leasts E n (m + 1)).length := by
  by_cases q : 2 * (m + 1) = n + 1
  · rw [C.comp (show m ≤ n by omega), show n - m = m + 1 by omega]
    exact Nat.le_refl _
  · have hm : m = 0 ∨ m = 1 ∨ m = 2 := by omega
    rcases hm with rfl | rfl | rfl
    · have : n = 2 ∨ n = 3 ∨ n = 4 ∨ n = 5 ∨ n = 6 ∨ n = 7 := by omega
      rcases this with rfl | rfl | rfl | rfl | rfl | rfl
      · exact C.mono (leftInv_of l20)
      · exact C.mono (leftInv_of l30)
      · exact C.mono (leftInv_of l40)
      · exact C.mono (leftInv_of l50)
      · exact C.mono (leftInv_of l60)
      · exact C.mono (leftInv_of l70)
    · have : n = 4 ∨ n = 5 ∨ n = 6 ∨ n = 7 := by omega
      rcases this with rfl | rfl | rfl | rfl
      · exact C.mono (leftInv_of l41)
      · exact C.mono (leftInv_of l51)
      · exact C.mono (leftInv_of l61)
      · exact C.mono (leftInv_of l71)
    · have : n = 6 ∨ n = 7 := by omega
      rcases this with rfl | rfl
      · exact C.mono (leftInv_of l62)
      · exact C.mono (leftInv_of l72)
end KM

namespace KM
/-! ### permutations by their places -/
theorem isPerm_of_inj {n : Nat} {p : List Nat} (hl : p.length = n) (hb : ∀ x, x < n → app p x < n) (hi : ∀ x y, x < n → y < n → app p x = app p y → x = y) : IsPerm n p := by
  refine ⟨hl, fun y hy => ?_, ?_⟩
  · obtain ⟨i, h, rfl⟩ := List.getElem_of_mem hy
    have := hb i (by omega)
    rwa [app_eq h] at this
  · refine (List.pairwise_iff_getElem).mpr fun i j h1 h2 hij e => ?_
    have := hi i j (by omega) (by omega) (by rw [app_eq h1, app_eq h2]; exact e)
    omega
theorem app_set {l : List Nat} {i v x : Nat} (hx : x < l.length) : app (l.set i v) x = if i = x then v else app l x := by
  rw [app_eq (by rw [List.length_set]; exact hx), app_eq hx, List.getElem_set]
/-- two places exchanged -/
theorem swap_isPerm {n i j : Nat} {l : List Nat} (P : IsPerm n l) (hi : i < n) (hj : j < n) : IsPerm n ((l.set i (app l j)).set j (app l i)) := by
  have hl := P.len
  have key : ∀ x, x < n → app ((l.set i (app l j)).set j (app l i)) x = app l (if x = j then i else if x = i then j else x) := fun x hx => by
    rw [app_set (by rw [List.length_set]; omega), app_set (by omega)]
    by_cases q : x = j
    · rw [if_pos q.symm, if_pos q]
    · rw [if_neg fun z => q z.symm, if_neg q]
      by_cases r : x = i
      · rw [if_pos r.symm, if_pos r]
      · rw [if_neg fun z => r z.symm, if_neg r]
  have hb : ∀ x, x < n → (if x = j then i else if x = i then j else x) < n := fun x hx => by
    split
    · exact hi
    · split
      · exact hj
      · exact hx
  refine isPerm_of_inj (by rw [List.length_set, List.length_set, hl]) (fun x hx => ?_) fun x y hx hy e => ?_
  · rw [key x hx]
    exact P.lt (hb x hx)
  · rw [key x hx, key y hy] at e
    have e2 := P.inj (hb x hx) (hb y hy) e
    (repeat' split at e2) <;> omega
/-! ### the inverse, as the law reckons it -/
def invN (p : List Nat) : Nat → List Nat
  | 0 => List.replicate p.length 0
  | i + 1 => (invN p i).set (app p i) i
def inv (p : List Nat) : List Nat := invN p p.length
theorem invN_len (p : List Nat) : ∀ i, (invN p i).length = p.length
  | 0 => List.length_replicate
  | i + 1 => by
    unfold invN
    rw [List.length_set]
    exact invN_len p i
theorem invN_at {n : Nat} {p : List Nat} (P : IsPerm n p) : ∀ i, i ≤ n → ∀ j, j < i → app (invN p i) (app p j) = j
  | 0, _, j, hj => absurd hj (Nat.not_lt_zero _)
  | i + 1, hi, j, hj => by
    unfold invN
    rw [app_set (by rw [invN_len, P.len]; exact P.lt (by omega))]
    by_cases q : app p i = app p j
    · rw [if_pos q]
      exact P.inj (by omega) (by omega) q
    · rw [if_neg q]
      refine invN_at P i (by omega) j ?_
      have : j ≠ i := fun z => q (by rw [z])
      omega
theorem inv_at {n : Nat} {p : List Nat} (P : IsPerm n p) {x : Nat} (h : x < n) : app (inv p) (app p x) = x := by
  unfold inv
  rw [P.len]
  exact invN_at P n (Nat.le_refl n) x h
theorem inv_isPerm {n : Nat} {p : List Nat} (P : IsPerm n p) : IsPerm n (inv p) := by
  have hl : (inv p).length = n := by
    unfold inv
    rw [invN_len, P.len]
  refine isPerm_of_inj hl (fun y hy => ?_) fun y z hy hz e => ?_
  · obtain ⟨x, hx, rfl⟩ := P.pre hy
    rw [inv_at P hx]
    exact hx
  · obtain ⟨a, ha, rfl⟩ := P.pre hy
    obtain ⟨b, hb, rfl⟩ := P.pre hz
    rw [inv_at P ha, inv_at P hb] at e
    rw [e]
theorem mul_inv {n : Nat} {p : List Nat} (P : IsPerm n p) : mul p (inv p) = unit n :=
  perm_ext (P.mul (inv_isPerm P)).len (isPerm_unit n).len fun x hx => by rw [app_mul P hx, inv_at P hx, app_unit hx]
theorem inv_mul {n : Nat} {p : List Nat} (P : IsPerm n p) : mul (inv p) p = unit n := by
  refine mul_left_cancel P ((inv_isPerm P).mul P) (isPerm_unit n) ?_
  rw [← mul_assoc P (inv_isPerm P) P, mul_inv P, unit_mul P, mul_unit P]
def conj (p g : List Nat) : List Nat := mul (mul (inv g) p) g
theorem conj_isPerm {n : Nat} {p g : List Nat} (P : IsPerm n p) (G : IsPerm n g) : IsPerm n (conj p g) := ((inv_isPerm G).mul P).mul G
theorem conj_mul {n : Nat} {p q g : List Nat} (P : IsPerm n p) (Q : IsPerm n q) (G : IsPerm n g) : mul (conj p g) (conj q g) = conj (mul p q) g := by
  have I := inv_isPerm G
  unfold conj
  rw [mul_assoc (I.mul P) G ((I.mul Q).mul G), mul_assoc I Q G, ← mul_assoc G I (Q.mul G), mul_inv G, unit_mul (Q.mul G), ← mul_assoc (I.mul P) Q G, mul_assoc I P Q]
theorem conj_unit {n : Nat} {g : List Nat} (G : IsPerm n g) : conj (unit n) g = unit n := by
  unfold conj
  rw [mul_unit (inv_isPerm G), inv_mul G]
/-! ### groups that are not great -/
def Small (n : Nat) (gens : List (List Nat)) : Prop := ∃ B : List (List Nat), B.length ≤ 1000 ∧ (∀ x ∈ B, IsPerm n x) ∧ unit n ∈ B ∧ ∀ x ∈ B, ∀ g ∈ gens, mul x g ∈ B
theorem Small.reach {n : Nat} {gens : List (List Nat)} {F : List (List Nat)} (S : Small n gens) (hn : F.Nodup) (h : ∀ x ∈ F, Reach n gens x) : F.length ≤ 1000 := by
  obtain ⟨B, hB, _, h1, h2⟩ := S
  refine Nat.le_trans (count_le_of_nodup_subset F B hn fun x hx => ?_) hB
  have := h x hx
  induction this with
  | one => exact h1
  | step r hg ih =>
    rename_i y g
    clear hx
    have : ∀ z, Reach n gens z → z ∈ B := fun z hz => by
      induction hz with
      | one => exact h1
      | step _ hg ih => exact h2 _ ih _ hg
    exact h2 _ (this _ r) _ hg
def permsL : Nat → List (List Nat)
  | 0 => [[]]
  | n + 1 => (permsL n).flatMap fun p => (List.range (n + 1)).map fun i => p.take i ++ n :: p.drop i
theorem permsL_isPerm : ∀ {n : Nat} {p : List Nat}, IsPerm n p → p ∈ permsL n
  | 0, p, P => by
    have : p = [] := List.eq_nil_of_length_eq_zero P.len
    rw [this]
    exact List.mem_singleton_self _
  | n + 1, p, P => by
    obtain ⟨a, b, rfl⟩ := List.append_of_mem (P.onto (Nat.lt_succ_self n))
    have hl := P.len
    rw [List.length_append, List.length_cons] at hl
    have nd := (List.perm_middle.nodup_iff.mp P.nd)
    have nd' := List.nodup_cons.mp nd
    have Q : IsPerm n (a ++ b) := by
      refine ⟨by rw [List.length_append]; omega, fun x hx => ?_, nd'.2⟩
      have h1 := P.bd x (by
        rcases List.mem_append.mp hx with h | h
        · exact List.mem_append.mpr (.inl h)
        · exact List.mem_append.mpr (.inr (List.mem_cons_of_mem _ h)))
      have h2 : x ≠ n := fun e => nd'.1 (e ▸ hx)
      omega
    refine List.mem_flatMap.mpr ⟨a ++ b, permsL_isPerm Q, List.mem_map.mpr ⟨a.length, List.mem_range.mpr (by omega), ?_⟩⟩
    rw [List.take_left', List.drop_left'] <;> rfl
theorem isPerm_dec {n : Nat} {p : List Nat} (h : (p.length == n && p.all (fun x => decide (x < n)) && decide p.Nodup) = true) : IsPerm n p := by
  obtain ⟨h1, h3⟩ := Bool.and_eq_true_iff.mp h
  obtain ⟨h1, h2⟩ := Bool.and_eq_true_iff.mp h1
  exact ⟨by simpa using h1, fun x hx => by simpa using List.all_eq_true.mp h2 x hx, of_decide_eq_true h3⟩
theorem permsL_len {n : Nat} (h : n ≤ 6) : (permsL n).length ≤ 1000 := by
  have : n = 0 ∨ n = 1 ∨ n = 2 ∨ n = 3 ∨ n = 4 ∨ n = 5 ∨ n = 6 := by omega
  rcases this with rfl | rfl | rfl | rfl | rfl | rfl | rfl <;> decide +kernel
theorem small_six {n : Nat} {gens : List (List Nat)} (hn : n ≤ 6) (gs : Gens n gens) : Small n gens := by
  classical
  refine ⟨(permsL n).filter fun p => decide (IsPerm n p), Nat.le_trans (List.length_filter_le _ _) (permsL_len hn), fun x hx => of_decide_eq_true (List.mem_filter.mp hx).2, ?_, fun x hx g hg => ?_⟩
  · exact List.mem_filter.mpr ⟨permsL_isPerm (isPerm_unit n), decide_eq_true (isPerm_unit n)⟩
  · have P := (of_decide_eq_true (List.mem_filter.mp hx).2 : IsPerm n x).mul (gs g hg)
    exact List.mem_filter.mpr ⟨permsL_isPerm P, decide_eq_true P⟩
theorem Small.sub {n : Nat} {gens more : List (List Nat)} (S : Small n gens) (h : ∀ g ∈ more, g ∈ gens) : Small n more := by
  obtain ⟨B, h1, h2, h3, h4⟩ := S
  exact ⟨B, h1, h2, h3, fun x hx g hg => h4 x hx g (h g hg)⟩
theorem Small.conj {n : Nat} {gens : List (List Nat)} (S : Small n gens) (gs : Gens n gens) {g : List Nat} (G : IsPerm n g) : Small n (gens.map fun p => KM.conj p g) := by
  obtain ⟨B, h1, h2, h3, h4⟩ := S
  refine ⟨B.map fun p => KM.conj p g, by rw [List.length_map]; exact h1, fun x hx => ?_, List.mem_map.mpr ⟨_, h3, conj_unit G⟩, fun x hx q hq => ?_⟩
  · obtain ⟨y, hy, rfl⟩ := List.mem_map.mp hx
    exact conj_isPerm (h2 y hy) G
  · obtain ⟨y, hy, rfl⟩ := List.mem_map.mp hx
    obtain ⟨r, hr, rfl⟩ := List.mem_map.mp hq
    exact List.mem_map.mpr ⟨_, h4 y hy r hr, (conj_mul (h2 y hy) (gs r hr) G).symm⟩
theorem Small.prod {n : Nat} {gens : List (List Nat)} (S : Small n gens) (gs : Gens n gens) {a b : List Nat} (ha : a ∈ gens) (hb : b ∈ gens) : Small n (gens ++ [mul a b]) := by
  obtain ⟨B, h1, h2, h3, h4⟩ := S
  refine ⟨B, h1, h2, h3, fun x hx g hg => ?_⟩
  rcases List.mem_append.mp hg with h | h
  · exact h4 x hx g h
  · rw [List.mem_singleton.mp h, ← mul_assoc (h2 x hx) (gs a ha) (gs b hb)]
    exact h4 _ (h4 x hx a ha) b hb
theorem Small.unit {n : Nat} {gens : List (List Nat)} (S : Small n gens) : Small n (KM.unit n :: gens) := by
  obtain ⟨B, h1, h2, h3, h4⟩ := S
  refine ⟨B, h1, h2, h3, fun x hx g hg => ?_⟩
  rcases List.mem_cons.mp hg with rfl | h
  · rw [mul_unit (h2 x hx)]
    exact hx
  · exact h4 x hx g h
/-! two groups on seven points, written out -/
def b42 : List (List Nat) := (List.range 6).flatMap fun a => (List.range 7).map fun c => (List.range 7).map fun x => ((a + 1) * x + c) % 7
def digits7 (c : Nat) : List Nat := [c / 1000000 % 10, c / 100000 % 10, c / 10000 % 10, c / 1000 % 10, c / 100 % 10, c / 10 % 10, c % 10]
def b168 : List (List Nat) := [
  123456, 1234560, 1053426, 2345601, 534261, 2164530, 3456012, 5342610, 1645302, 3205641, 5064231, 4560123,
  3426105, 6453021, 2056413, 642315, 4316052, 3512640, 6105342, 5601234, 4261053, 4530216, 564132, 6423150,
  3160524, 5126403, 5420163, 4306125, 4623051, 216453, 6012345, 2610534, 5302164, 5641320, 4231506, 1605243,
  1264035, 4201635, 3061254, 6230514, 6531204, 2451063, 5410236, 5034162, 4653120, 1320564, 1506423, 3021645,
  6413205, 2315064, 6052431, 2640351, 2016354, 612543, 2305146, 5312046, 4510632, 4102365, 341625, 3562104,
  6521340, 2401536, 6145203, 2134065, 2431605, 351264, 4132056, 3150642, 524316, 6403512, 163542, 6125430,
  3051462, 3120465, 5106324, 1023654, 3416250, 5621043, 5213406, 4015362, 1452036, 1340652, 4603215, 3265014,
  632451, 6250341, 256314, 6042513, 3245106, 3542016, 5430612, 1462305, 5243160, 4035126, 1635420, 1254306,
  514623, 1204653, 1063245, 236541, 4162503, 6210435, 153624, 4520361, 3406521, 6032154, 2650143, 6324510,
  2503416, 2563140, 425136, 5014326, 4613502, 1043562, 361452, 1360425, 1526304, 4356210, 6541023, 465312,
  6354201, 2543061, 5146230, 2046531, 2365410, 1625034, 2104356, 1536240, 5203614, 4065213, 321546, 6501432,
  5631402, 4251360, 143265, 6135024, 435621, 3614520, 3604251, 5263041, 5024613, 2154603, 1402563, 2630415,
  5460321, 4326501, 652134, 6240153, 3654102, 5362401, 2036145, 3215460, 6314025, 2513604, 1432650, 1350246,
  246135, 1546032, 4025631, 6304152, 415263, 3041526, 2461350, 3624015, 3140256, 5136042, 3502461, 4152630].map digits7
def closedBy (B gens : List (List Nat)) : Bool :=
  decide (B.length ≤ 1000) && B.all (fun p => p.length == 7 && p.all (fun x => decide (x < 7)) && decide p.Nodup) && B.contains (unit 7) && B.all fun x => gens.all fun g => B.contains (mul x g)
theorem small_of {B gens : List (List Nat)} (h : closedBy B gens = true) : Small 7 gens := by
  unfold closedBy at h
  obtain ⟨h, h4⟩ := Bool.and_eq_true_iff.mp h
  obtain ⟨h, h3⟩ := Bool.and_eq_true_iff.mp h
  obtain ⟨h1, h2⟩ := Bool.and_eq_true_iff.mp h
  refine ⟨B, of_decide_eq_true h1, fun x hx => isPerm_dec (List.all_eq_true.mp h2 x hx), by simpa using h3, fun x hx g hg => ?_⟩
  simpa using List.all_eq_true.mp (List.all_eq_true.mp h4 x hx) g hg
def affine : List (List Nat) := [[1, 2, 3, 4, 5, 6, 0], [0, 6, 5, 4, 3, 2, 1], [0, 2, 4, 6, 1, 3, 5], [0, 3, 6, 2, 5, 1, 4]]
def fano : List (List Nat) := [[1, 2, 3, 4, 5, 6, 0], [1, 0, 5, 3, 4, 2, 6]]
theorem small_affine : Small 7 affine := small_of (B := b42) (by decide +kernel)
theorem small_fano : Small 7 fano := small_of (B := b168) (by decide +kernel)
/-- what the law builds its groups of -/
structure Good (n : Nat) (gens : List (List Nat)) : Prop where
  lo : 1 ≤ n
  hi : n ≤ 7
  many : gens.length ≤ 12
  gs : Gens n gens
  small : Small n gens
/-- a row of the table of known groups -/
def rowOk (t : Nat × Nat × List (List Nat)) : Bool :=
  decide (1 ≤ t.2.1) && decide (t.2.1 ≤ 7) && decide (t.2.2.length ≤ 4) && t.2.2.all (fun p => p.length == t.2.1 && p.all (fun x => decide (x < t.2.1)) && decide p.Nodup) &&
    (decide (t.2.1 ≤ 6) || t.2.2.all (affine.contains ·) || t.2.2.all (fano.contains ·))
structure Base (n : Nat) (gens : List (List Nat)) : Prop where
  lo : 1 ≤ n
  hi : n ≤ 7
  many : gens.length ≤ 4
  gs : Gens n gens
  small : Small n gens
theorem base_of {t : Nat × Nat × List (List Nat)} (h : rowOk t = true) : Base t.2.1 t.2.2 := by
  obtain ⟨o, n, gens⟩ := t
  unfold rowOk at h
  obtain ⟨h, h5⟩ := Bool.and_eq_true_iff.mp h
  obtain ⟨h, h4⟩ := Bool.and_eq_true_iff.mp h
  obtain ⟨h, h3⟩ := Bool.and_eq_true_iff.mp h
  obtain ⟨h1, h2⟩ := Bool.and_eq_true_iff.mp h
  have lo := of_decide_eq_true h1
  have hi := of_decide_eq_true h2
  have gs : Gens n gens := fun g hg => isPerm_dec (List.all_eq_true.mp h4 g hg)
  refine ⟨lo, hi, of_decide_eq_true h3, gs, ?_⟩
  dsimp only at lo hi ⊢
  by_cases q : n ≤ 6
  · exact small_six q gs
  · have e : n = 7 := by omega
    subst e
    rcases Bool.or_eq_true_iff.mp h5 with h5 | h5
    · rcases Bool.or_eq_true_iff.mp h5 with h5 | h5
      · exact absurd (of_decide_eq_true h5) q
      · exact small_affine.sub fun g hg => by simpa using List.all_eq_true.mp h5 g hg
    · exact small_fano.sub fun g hg => by simpa using List.all_eq_true.mp h5 g hg
/-! ### the least of some lists -/
theorem least_eq_iff {l : List (List Nat)} {m S : List Nat} (hm : m ∈ l) (h : ∀ x ∈ l, lx x m = false) (hS : S ∈ l) : m = S ↔ ∀ x ∈ l, lx x S = false := by
  constructor
  · rintro rfl
    exact h
  · intro q
    exact lx_eq (q m hm) (h S hS)
theorem Clo.least_iff {n : Nat} {gens E : List (List Nat)} (C : Clo n gens E) {k : Nat} {S m : List Nat} (hS : IsSet n k S) (hm : m ∈ E.map fun x => img x S) (h : ∀ x ∈ E.map (fun x => img x S), lx x m = false) : m = S ↔ isLeast E S = true := by
  rw [least_eq_iff hm h (List.mem_map.mpr ⟨_, C.one, img_unit hS⟩), isLeast_iff]
  exact ⟨fun q x hx => q _ (List.mem_map.mpr ⟨x, hx, rfl⟩), fun q x hx => by
    obtain ⟨y, hy, rfl⟩ := List.mem_map.mp hx
    exact q y hy⟩
theorem Clo.least_first {n : Nat} {gens E : List (List Nat)} (C : Clo n gens E) {S m : List Nat} (hm : m ∈ (gens.map fun x => img x S) ++ [S]) (h : ∀ x ∈ (gens.map fun x => img x S) ++ [S], lx x m = false) (hl : isLeast E S = true) : m = S := by
  refine (least_eq_iff hm h (List.mem_append.mpr (.inr (List.mem_singleton_self _)))).mpr fun x hx => ?_
  rcases List.mem_append.mp hx with hx | hx
  · obtain ⟨y, hy, rfl⟩ := List.mem_map.mp hx
    exact isLeast_iff.mp hl y (C.gen hy)
  · rw [List.mem_singleton.mp hx]
    exact lx_irrefl S
end KM
end
section
namespace KW
open PySem PySem.Spec PyProof.Rows L2 KM
/-! ### heaps: tuples stay -/
def Evo (H H' : Hp) : Prop := ∀ b xs, H b = some (.tup xs) → H' b = some (.tup xs)
theorem Evo.refl (H : Hp) : Evo H H := fun _ _ h => h
theorem Evo.trans {H H1 H2 : Hp} (a : Evo H H1) (b : Evo H1 H2) : Evo H H2 := fun c o h => b c o (a c o h)
theorem evo_of_same {H H' : Hp} (h : Same H H') : Evo H H' := fun b xs e => h b _ e
theorem evo_new {H : Hp} {p : Addr} {o : HO} (h : H p = none) : Evo H (upd H p o) := fun b xs e => by
  rw [upd_ne (ne_of_none e h)]
  exact e
theorem evo_put {H : Hp} {p : Addr} {o u : HO} (h : H p = some u) (hu : ∀ xs, u ≠ .tup xs) : Evo H (upd H p o) := fun b xs e => by
  have ne : b ≠ p := fun z => by
    rw [z, h] at e
    exact hu xs (Option.some.inj e)
  rw [upd_ne ne]
  exact e
theorem evo_lst {H : Hp} {p : Addr} {o : HO} {ys : List V} (h : H p = some (.lst ys)) : Evo H (upd H p o) := evo_put h fun _ z => nomatch z
theorem evo_dT {H : Hp} {p : Addr} {o : HO} {ys : List (List L2.Key × V)} (h : H p = some (.dT ys)) : Evo H (upd H p o) := evo_put h fun _ z => nomatch z
theorem same_new {H : Hp} {p : Addr} {o : HO} (h : H p = none) : Same H (upd H p o) := fun b u e => by
  rw [upd_ne (ne_of_none e h)]
  exact e
/-- a heap that keeps what H0 had, changed at an address that H0 did not have -/
theorem same_put {H0 H : Hp} {p : Addr} {o : HO} (s : Same H0 H) (h : H0 p = none) : Same H0 (upd H p o) := fun b u e => by
  rw [upd_ne (ne_of_none e h)]
  exact s b u e
theorem same_free {H0 H : Hp} {p : Addr} (s : Same H0 H) (h : H p = none) : H0 p = none := s.free h
/-! ### values: points, sets, lists of sets -/
def iv (S : List Nat) : List V := (S.map fun n : Nat => (n : Int)).map V.int
theorem iv_len (S : List Nat) : (iv S).length = S.length := by
  unfold iv
  rw [List.length_map, List.length_map]
theorem iv_nil : iv [] = [] := rfl
theorem iv_cons (n : Nat) (S : List Nat) : iv (n :: S) = .int (n : Int) :: iv S := rfl
theorem iv_append (a b : List Nat) : iv (a ++ b) = iv a ++ iv b := by
  unfold iv
  rw [List.map_append, List.map_append]
theorem iv_get {S : List Nat} {i n : Nat} (h : S[i]? = some n) : (iv S)[i]? = some (.int (n : Int)) := by
  unfold iv
  rw [List.getElem?_map, List.getElem?_map, h]
  rfl
theorem iv_get_inv {S : List Nat} {i : Nat} {v : V} (h : (iv S)[i]? = some v) : ∃ n : Nat, S[i]? = some n ∧ v = .int (n : Int) := by
  unfold iv at h
  rw [List.getElem?_map, List.getElem?_map] at h
  cases q : S[i]? with
  | none =>
    rw [q] at h
    cases h
  | some n =>
    rw [q] at h
    exact ⟨n, rfl, (Option.some.inj h).symm⟩
theorem iv_inj {a b : List Nat} (h : iv a = iv b) : a = b := by
  induction a generalizing b with
  | nil => cases b with
    | nil => rfl
    | cons _ _ => cases h
  | cons x a ih => cases b with
    | nil => cases h
    | cons y b =>
      rw [iv_cons, iv_cons] at h
      obtain ⟨h1, h2⟩ := List.cons.inj h
      have h3 : (x : Int) = (y : Int) := V.int.inj h1
      rw [ih h2, show x = y by omega]
theorem iv_take (S : List Nat) (i : Nat) : (iv S).take i = iv (S.take i) := by
  unfold iv
  rw [List.map_take, List.map_take]
theorem iv_set (S : List Nat) (i n : Nat) : (iv S).set i (.int (n : Int)) = iv (S.set i n) := by
  unfold iv
  rw [List.map_set, List.map_set]
theorem iv_app {p : List Nat} {x : Nat} (h : x < p.length) : (iv p)[x]? = some (.int (app p x : Int)) := iv_get (app_get h)
/-- v is a tuple of the points S -/
def Tp (H : Hp) (v : V) (S : List Nat) : Prop := ∃ a, v = .ref a ∧ H a = some (.tup (iv S))
theorem Tp.evo {H H' : Hp} {v : V} {S : List Nat} (e : Evo H H') (h : Tp H v S) : Tp H' v S := let ⟨a, h1, h2⟩ := h; ⟨a, h1, e _ _ h2⟩
theorem Tp.inj {H : Hp} {v : V} {S T : List Nat} (h : Tp H v S) (g : Tp H v T) : S = T := by
  obtain ⟨a, rfl, h2⟩ := h
  obtain ⟨b, e, g2⟩ := g
  cases e
  rw [h2] at g2
  exact iv_inj (HO.tup.inj (Option.some.inj g2))
abbrev Tps (H : Hp) : List V → List (List Nat) → Prop := Paired (Tp H)
theorem Tps.evo {H H' : Hp} {vs : List V} {Ss : List (List Nat)} (e : Evo H H') (h : Tps H vs Ss) : Tps H' vs Ss := Paired.mapP h fun _ _ z => z.evo e
theorem Paired.getL {α β : Type} {F : α → β → Prop} : ∀ {l : List α} {m : List β} {i : Nat} {a : α}, Paired F l m → l[i]? = some a → ∃ b, m[i]? = some b ∧ F a b
  | _, _, _, _, .nil, h => by simp at h
  | _, _, 0, _, .cons f _, h => by
    simp at h
    subst h
    exact ⟨_, rfl, f⟩
  | _, _, i + 1, _, .cons _ r, h => by
    obtain ⟨b, h1, h2⟩ := Paired.getL r (i := i) (by simpa using h)
    exact ⟨b, by simpa using h1, h2⟩
theorem Paired.getR {α β : Type} {F : α → β → Prop} : ∀ {l : List α} {m : List β} {i : Nat} {b : β}, Paired F l m → m[i]? = some b → ∃ a, l[i]? = some a ∧ F a b
  | _, _, _, _, .nil, h => by simp at h
  | _, _, 0, _, .cons f _, h => by
    simp at h
    subst h
    exact ⟨_, rfl, f⟩
  | _, _, i + 1, _, .cons _ r, h => by
    obtain ⟨b, h1, h2⟩ := Paired.getR r (i := i) (by simpa using h)
    exact ⟨b, by simpa using h1, h2⟩
theorem Paired.app2 {α β : Type} {F : α → β → Prop} : ∀ {l l2 : List α} {m m2 : List β}, Paired F l m → Paired F l2 m2 → Paired F (l ++ l2) (m ++ m2)
  | _, _, _, _, .nil, h => h
  | _, _, _, _, .cons f r, h => .cons f (Paired.app2 r h)
/-- a list of sets at l; a tuple of sets -/
def Lts (H : Hp) (l : Addr) (Ss : List (List Nat)) : Prop := ∃ vs, H l = some (.lst vs) ∧ Tps H vs Ss
def Tts (H : Hp) (v : V) (Ss : List (List Nat)) : Prop := ∃ a vs, v = .ref a ∧ H a = some (.tup vs) ∧ Tps H vs Ss
theorem Tts.evo {H H' : Hp} {v : V} {Ss : List (List Nat)} (e : Evo H H') (h : Tts H v Ss) : Tts H' v Ss := let ⟨a, vs, h1, h2, h3⟩ := h; ⟨a, vs, h1, e _ _ h2, h3.evo e⟩
/-- a group: the pair of its degree and a tuple of permutations -/
def Grp (H : Hp) (v : V) (n : Nat) (gens : List (List Nat)) : Prop := ∃ a g, v = .ref a ∧ H a = some (.tup [.int (n : Int), g]) ∧ Tts H g gens
theorem Grp.evo {H H' : Hp} {v : V} {n : Nat} {gens : List (List Nat)} (e : Evo H H') (h : Grp H v n gens) : Grp H' v n gens := let ⟨a, g, h1, h2, h3⟩ := h; ⟨a, g, h1, e _ _ h2, h3.evo e⟩
/-! ### order, as the model has it -/
theorem lexLt_lx : ∀ S T : List Nat, HT.lexLt (S.map fun n : Nat => (n : Int)) (T.map fun n : Nat => (n : Int)) = lx S T
  | [], [] => rfl
  | [], _ :: _ => rfl
  | _ :: _, [] => rfl
  | x :: S, y :: T => by
    rw [List.map_cons, List.map_cons, HT.lexLt_cons, lexLt_lx S T]
    show _ = (decide (x < y) || (x == y && lx S T))
    by_cases e : x = y
    · subst e
      rw [if_pos rfl]
      simp
    · have e' : ¬ (x : Int) = (y : Int) := by omega
      rw [if_neg e']
      have : (x == y) = false := by simpa using e
      rw [this, Bool.false_and, Bool.or_false, Bool.eq_iff_iff, decide_eq_true_iff, decide_eq_true_iff]
      omega
/-- keys of dicts -/
def kvS (S : List Nat) : List L2.Key := S.map fun n : Nat => Sum.inl (n : Int)
theorem kvS_map (S : List Nat) : (kvS S).map kV = iv S := by
  unfold kvS iv
  rw [List.map_map, List.map_map]
  rfl
theorem kvS_inj {S T : List Nat} (h : kvS S = kvS T) : S = T := iv_inj (by rw [← kvS_map, ← kvS_map, h])
theorem small_size {n : Nat} (h : n ≤ 100000) : n ≤ sizeLine := by
  rw [sizeLine_eq]
  omega
theorem small_lt {n : Nat} (h : n ≤ 100000) : n < sizeLine := by
  rw [sizeLine_eq]
  omega
end KW
end
section
namespace KW
open PySem PySem.Spec PyProof.Rows L2
section
variable {X : Cx} {pos : Pos}
/-- {k: v}, one pair, the key a tuple of ints or texts -/
def tDisp1 (tk tv : TE) : TE := fun σ H Q => ∀ p, H p = none → tk σ (upd H p (.dT [])) fun x H1 => tv σ H1 fun y H2 =>
  H2 p = some (.dT []) ∧ ∃ (b : Addr) (ks : List L2.Key), x = .ref b ∧ H2 b = some (.tup (ks.map kV)) ∧ Q (.ref p) (upd H2 p (.dT [(ks, y)]))
theorem pe_disp1 {k v : Expr} {tk tv : TE} (hu : X.A.units + 1 < cLine) (hk : PE X k tk) (hv : PE X v tv) : PE X (.Dict [some k] [v] pos) (tDisp1 tk tv) := by
  refine ⟨fun pins s σ H Q I q => ?_⟩
  have hn := I.hok.fresh (Nat.le_refl s.heap.objs.size)
  have I1 := I.laid (a := s.heap.objs.size) (o := .dT []) (h' := s.heap.push { cls := .type "dict", data := .dict #[] }) (t' := s.toks) (fun _ _ q => Heap.get?_push_of_some _ q) (Nat.le_refl _) (dt_empty s.heap I.big)
  have hlen : (pairTrees [some k] [v] X.env pos).length = 1 := pairTrees_length [some k] [v] X.env pos rfl rfl
  have h0 : pairTrees [some k] [v] X.env pos ≠ [] := fun z => by rw [z] at hlen; cases hlen
  rw [arm_eval_Dict, zip_pairTrees [some k] [v] X.env pos rfl rfl, dictDisplay_pairs (pairTrees [some k] [v] X.env pos) h0 (by rw [hlen]; decide)]
  refine wpAny_bind (wpAny_standAt (wpAny_bind (wpAny_subDictH (knd := tupleKind (mixKind X.prog X.w)) (Nat.lt_of_succ_lt hu) (by rw [hlen]; decide) ?_)))
  refine pairTrees_cons_walk (thn (hk.run pins _ σ _ _ I1 (q _ hn)) fun wk s1 ⟨x, H1, I2, rk, q1⟩ => thn (hv.run pins s1 σ H1 _ I2 q1) fun wy s2 ⟨y, H2, I3, ry, e, b, ks, ex, eb, q2⟩ => pairTrees_nil_walk ?_)
  subst ex
  have hwk : wk = Value.ref b := rk
  subst hwk
  obtain ⟨z, hd, xs, rx, dd⟩ := dt_of I3.hok e
  cases rx
  refine ⟨[(ks, b, wy)], ⟨rfl, rfl, key_of I3.hok eb, trivial⟩, dd, fun h' tk dd' hs => wpAny_pure ⟨.ref s.heap.objs.size, _, ?_, rfl, q2⟩⟩
  obtain ⟨ob, es, ep, hq, g1, g2, g3, _, g5⟩ := dd'
  refine d_write (t' := tk) I3 (by rw [e]; exact True.intro) hs ⟨ob, hq⟩ ⟨by show 1 ≤ sizeLine; decide, hd, [(ks, b, wy)], .cons ⟨rfl, ?_, ry⟩ .nil, ob, es, ep, hq, g1, g2, g3, g5⟩
  rw [upd_ne (ne_of eb e (fun z => nomatch z))]
  exact eb
end
end KW
end
section
namespace KW
open PySem PySem.Spec PyProof.Rows L2 KM
section
variable {prog : Program} {w : World} {A : Around} {E : Value → Shared → Prop} {R : Result → Shared → Prop} {I S : Addr} {fp wr : List Addr} {n : Nat} {P : Nat → Value → Prop} {St : Nat → Heap → Prop}
/-- what the comparison leans on, and the comparison while it holds -/
structure CmpIn (prog : Program) (w : World) (A : Around) (wr : List Addr) (S : Addr) (P : Nat → Value → Prop) (bt : Nat → Nat → Bool) (G : Heap → Prop) : Prop where
  stays : ∀ h h' : Heap, G h → (∀ b o, b ∉ wr → b ≠ S → h.get? b = some o → h'.get? b = some o) → G h'
  cmp : ∀ i j vi vj (s : Shared) (Q : Value → Shared → Prop) (E : Value → Shared → Prop), G s.heap → P i vi → P j vj → Q (.bool (bt i j)) s → wpAny (model prog w) A (richCompare .Lt vi vj) Q E s
theorem loop_name : (toString "min" ++ toString ".loop" : String) = "min.loop" := by decide
theorem min_loopG {G : Heap → Prop} (W : Walks prog w A.in1 I fp wr n P St) (bt : Nat → Nat → Bool) (C : CmpIn prog w A.in1 wr S P bt G) (hSf : S ∉ fp) :
    ∀ (k j : Nat) (s : Shared) (vb : Value) (c : Nat), n - (j + 1) = k → j + 1 ≤ n → St (j + 1) s.heap → G s.heap → P (argBest bt j) vb →
      s.heap.get? S = some { cls := .type "list", dict := none, data := .seq #[vb, vb] c, slots := #[] } →
      (∀ v h' tk, P (argBest bt (n - 1)) v → (∀ b o, b ∉ wr → b ≠ S → s.heap.get? b = some o → h'.get? b = some o) → R (.ok (.ret v)) { s with heap := h', toks := tk }) →
      codeAny (model prog w) A (.builtin "min.loop" ⟨[.ref I, .none, .ref S], []⟩) R s := by
  have hSw : S ∉ wr := fun z => hSf (W.sub _ z)
  intro k
  induction k with
  | zero =>
    intro j s vb c hk hj hst hG hP hS hR
    have hin : j + 1 = n := by omega
    subst hin
    refine codeAny_builtin F.entry_min_loop ?_
    rw [Around.under_plainId F.plain_min_loop _]
    refine wpAny_bind (m := seqItems? (.ref S)) (wpAny_seqItems hS rfl ?_)
    refine wpAny_bind (m := tryCatch (pyNext (.ref I)) _) (wpAny_tryCatch (W.done s _ _ hst fun h' tk kept => ?_))
    have hS1 := kept S _ hSw hS
    refine wpAny_bind (m := updateSeq S fun _ => #[]) (wpAny_updateSeq hS1 rfl (wpAny_bind (wpAny_letGo (wpAny_pure ?_))))
    exact hR vb _ tk hP fun b o h1 h2 e => (Heap.get?_update_other _ _ (Ne.symm h2)).trans (kept b o h1 e)
  | succ k ih =>
    intro j s vb c hk hj hst hG hP hS hR
    have hlt : j + 1 < n := by omega
    refine codeAny_builtin F.entry_min_loop ?_
    rw [Around.under_plainId F.plain_min_loop _]
    refine wpAny_bind (m := seqItems? (.ref S)) (wpAny_seqItems hS rfl ?_)
    refine wpAny_bind (m := tryCatch (pyNext (.ref I)) _) (wpAny_tryCatch (W.item (j + 1) s _ _ hlt hst fun v h' tk hv hst1 kept => ?_))
    have hS1 := kept S _ hSw hS
    have hG1 := C.stays _ _ hG fun b o h1 _ e => kept b o h1 e
    refine wpAny_bind (m := tryCatch (holding [v, v] (richCompare .Lt v vb >>= _)) _) (wpAny_tryCatch (wpAny_holding (wpAny_bind (C.cmp (j + 1) (argBest bt j) v vb _ _ _ hG1 hv hP ?_))))
    refine wpAny_bind (wpAny_holding (wpAny_truthy_bool (wpAny_bind (wpAny_letGo (wpAny_pure ?_)))))
    cases hb : bt (j + 1) (argBest bt j) with
    | true =>
      simp only [if_true]
      refine wpAny_bind (wpAny_updateSeq hS1 rfl (wpAny_bind (wpAny_letGo ?_)))
      rw [loop_name]
      refine wpAny_pure ⟨plainId_quiet F.plain_min_loop _, ih (j + 1) _ v _ (by omega) hlt (W.frame _ _ _ hst1 fun b hbf o e => ?_) (C.stays _ _ hG1 fun b o _ h2 e => (Heap.get?_update_other _ _ (Ne.symm h2)).trans e) ?_ (Heap.get?_update_self _ hS1 rfl) fun v2 h2 tk2 hv2 k2 => ?_⟩
      · exact (Heap.get?_update_other _ _ (fun z : S = b => hSf (by rw [z]; exact hbf))).trans e
      · simp only [argBest, hb, if_true]
        exact hv
      · exact hR v2 h2 tk2 hv2 fun b o h1 hs e => k2 b o h1 hs ((Heap.get?_update_other _ _ (Ne.symm hs)).trans (kept b o h1 e))
    | false =>
      simp only [Bool.false_eq_true, if_false]
      refine wpAny_bind (wpAny_letGo ?_)
      rw [loop_name]
      refine wpAny_pure ⟨plainId_quiet F.plain_min_loop _, ih (j + 1) _ vb c (by omega) hlt hst1 hG1 ?_ hS1 fun v2 h2 tk2 hv2 k2 => ?_⟩
      · simp only [argBest, hb, Bool.false_eq_true, if_false]
        exact hP
      · exact hR v2 h2 tk2 hv2 fun b o h1 hs e => k2 b o h1 hs (kept b o h1 e)
theorem min_loopG_first {G : Heap → Prop} (W : Walks prog w A.in1 I fp wr n P St) (bt : Nat → Nat → Bool) (C : CmpIn prog w A.in1 wr S P bt G) (hSf : S ∉ fp) (hn : 0 < n) {s : Shared} {c : Nat} (hst : St 0 s.heap) (hG : G s.heap)
    (hS : s.heap.get? S = some { cls := .type "list", dict := none, data := .seq #[] c, slots := #[] })
    (hR : ∀ v h' tk, P (argBest bt (n - 1)) v → (∀ b o, b ∉ wr → b ≠ S → s.heap.get? b = some o → h'.get? b = some o) → R (.ok (.ret v)) { s with heap := h', toks := tk }) :
    codeAny (model prog w) A (.builtin "min.loop" ⟨[.ref I, .none, .ref S], []⟩) R s := by
  have hSw : S ∉ wr := fun z => hSf (W.sub _ z)
  refine codeAny_builtin F.entry_min_loop ?_
  rw [Around.under_plainId F.plain_min_loop _]
  refine wpAny_bind (m := seqItems? (.ref S)) (wpAny_seqItems hS rfl ?_)
  refine wpAny_bind (m := tryCatch (pyNext (.ref I)) _) (wpAny_tryCatch (W.item 0 s _ _ hn hst fun v h' tk hv hst1 kept => ?_))
  have hS1 := kept S _ hSw hS
  refine wpAny_bind (m := updateSeq S fun _ => #[v, v]) (wpAny_updateSeq hS1 rfl ?_)
  rw [loop_name]
  refine wpAny_pure ⟨plainId_quiet F.plain_min_loop _, min_loopG W bt C hSf _ 0 _ v _ rfl hn (W.frame _ _ _ hst1 fun b hbf o e => ?_) (C.stays _ _ (C.stays _ _ hG fun b o h1 _ e => kept b o h1 e) fun b o _ h2 e => (Heap.get?_update_other _ _ (Ne.symm h2)).trans e) hv (Heap.get?_update_self _ hS1 rfl) fun v2 h2 tk2 hv2 k2 => ?_⟩
  · exact (Heap.get?_update_other _ _ (fun z : S = b => hSf (by rw [z]; exact hbf))).trans e
  · exact hR v2 h2 tk2 hv2 fun b o h1 hs e => k2 b o h1 hs ((Heap.get?_update_other _ _ (Ne.symm hs)).trans (kept b o h1 e))
end
section
variable {prog : Program} {w : World} {A : Around} {E : Value → Shared → Prop} {s : Shared}
theorem call_minG {x : Value} {Q : Value → Shared → Prop}
    (h : wpAny (model prog w) A.in1 (pyIter x) (fun it s₂ => ∃ I fp wr n P St bt G, it = .ref I ∧ Walks prog w A.in1 I fp wr n P St ∧ St 0 s₂.heap ∧ (∀ b ∈ fp, b < s₂.heap.objs.size) ∧ 0 < n ∧
      (∀ S : Addr, s₂.heap.objs.size ≤ S → CmpIn prog w A.in1 wr S P bt G) ∧ G s₂.heap ∧
      ∀ v h' tk, P (argBest bt (n - 1)) v → (∀ b o, b ∉ wr → s₂.heap.get? b = some o → h'.get? b = some o) → Q v { s₂ with heap := h', toks := tk }) E s) :
    wpAny (model prog w) A (call (.builtin "min") [x]) Q E s := by
  refine call_function_tree F.kind_min F.plain_min F.entry_min (F.args_min1 _) ?_
  refine wpAny_bind (m := Builtin.Builtins.bindParams "min" ["key", "default"] 0 ⟨[], []⟩) (wpAny_of_eq (show Builtin.Builtins.bindParams "min" ["key", "default"] 0 ⟨[], []⟩ = pure [none, none] from rfl) ?_)
  refine wpAny_bind (wpAny_pure (wpAny_bind (thn h fun it s2 h2 => ?_)))
  obtain ⟨I, fp, wr, n, P, St, bt, G, rfl, W, hst, hfp, hn, hC, hG, hQ⟩ := h2
  have C := hC s2.heap.objs.size (Nat.le_refl _)
  refine wpAny_bind (wpAny_newObj_type ?_)
  have hSf : s2.heap.objs.size ∉ fp := fun z => Nat.lt_irrefl _ (hfp _ z)
  rw [loop_name]
  refine wpAny_pure ⟨plainId_quiet F.plain_min_loop _, min_loopG_first W bt C hSf hn (W.frame _ _ _ hst fun b _ o e => Heap.get?_push_of_some _ e) (C.stays _ _ hG fun b o _ _ e => Heap.get?_push_of_some _ e) (Heap.get?_push_size _ rfl) fun v h' tk hv kept => ?_⟩
  exact hQ v h' tk hv fun b o hb e => kept b o hb (Nat.ne_of_lt (Heap.lt_size e)) (Heap.get?_push_of_some _ e)
end
/-- the best of the first j + 1 -/
theorem argBest_le (bt : Nat → Nat → Bool) : ∀ j, argBest bt j ≤ j
  | 0 => Nat.le_refl _
  | j + 1 => by
    unfold argBest
    have := argBest_le bt j
    split <;> omega
theorem argBest_least (bt : Nat → Nat → Bool) (hi : ∀ i, bt i i = false) (ht : ∀ i j k, bt i j = true → bt j k = true → bt i k = true) : ∀ j i, i ≤ j → bt i (argBest bt j) = false
  | 0, i, h => by
    rw [show i = 0 by omega]
    exact hi 0
  | j + 1, i, h => by
    unfold argBest
    cases q : bt (j + 1) (argBest bt j) with
    | true =>
      rw [if_pos rfl]
      rcases Nat.lt_or_ge i (j + 1) with z | z
      · cases e : bt i (j + 1) with
        | false => rfl
        | true =>
          have := ht _ _ _ e q
          rw [argBest_least bt hi ht j i (by omega)] at this
          cases this
      · rw [show i = j + 1 by omega]
        exact hi _
    | false =>
      rw [if_neg Bool.false_ne_true]
      rcases Nat.lt_or_ge i (j + 1) with z | z
      · exact argBest_least bt hi ht j i (by omega)
      · rw [show i = j + 1 by omega]
        exact q
section
variable {X : Cx}
/-- min of a list of sets: a least one -/
def rMinT (K : PySem.W.Frag) : List V → Hp → VK → Prop := fun vs H Q => ∃ (a : Addr) (xs : List V) (Ss : List (List Nat)), vs = [V.ref a] ∧ SqL K H a xs ∧ Tps H xs Ss ∧ xs ≠ [] ∧ ∀ x S, x ∈ xs → S ∈ Ss → Tp H x S → (∀ T ∈ Ss, lx T S = false) → Q x H
theorem richLt {prog : Program} {w : World} {A : Around} {E : Value → Shared → Prop} {s : Shared} {a b : Addr} {Q : Value → Shared → Prop} {x y : Array Value} {ns ms : List Int} (ha : IsTup s.heap a x) (hb : IsTup s.heap b y) (hi : IntsAre x.toList ns) (hj : IntsAre y.toList ms) (hu : A.units < cLine)
    (h : Q (.bool (HT.lexLt ns ms)) s) : wpAny (model prog w) A (richCompare .Lt (.ref a) (.ref b)) Q E s := HT.lt_tupInts ha hb hi hj hu h
theorem call_minT (hc : X.calm = true) (hu : X.A.units + 1 < cLine) : CallR X (.builtin "min") (rMinT X.K) := by
  intro pins s σ H vs us Q I r h
  obtain ⟨a, xs, Ss, rfl, hs, hp, hne, q⟩ := h
  obtain ⟨its, rv, hl, hz⟩ := I.list hs
  rw [Vals.ref1 r]
  have hlen : its.toArray.size = xs.length := by rw [List.size_toArray]; exact rv.length.symm
  have hlS : xs.length = Ss.length := Paired.length hp
  have hpos : 0 < its.toArray.size := by
    rw [hlen]
    exact List.length_pos_iff.mpr hne
  refine call_minG (wpAny_pyIter_list hl.isList ?_)
  have hal : a < s.heap.objs.size := by
    obtain ⟨o, ho, _⟩ := hl.isList
    exact Heap.lt_size ho
  have hne2 : a ≠ s.heap.objs.size := Nat.ne_of_lt hal
  -- each item is a tuple of points
  have key : ∀ i v, its.toArray[i]? = some v → ∃ t : Addr, v = .ref t ∧ ∃ y : Array Value, IsTup s.heap t y ∧ IntsAre y.toList ((Ss.getD i []).map fun n : Nat => (n : Int)) ∧ xs[i]? = some (.ref t) ∧ Tp H (.ref t) (Ss.getD i []) ∧ Ss.getD i [] ∈ Ss := by
    intro i v hv
    have hv' : its[i]? = some v := by simpa using hv
    have hi : i < its.length := (List.getElem?_eq_some_iff.mp hv').1
    have hix : i < xs.length := by rw [rv.length]; exact hi
    obtain ⟨u, hu1, hu2⟩ := rv.get (List.getElem?_eq_getElem hix)
    rw [hv'] at hu1
    cases hu1
    obtain ⟨T, hT, t, et, ht⟩ := Paired.getL hp (List.getElem?_eq_getElem hix)
    have eS : Ss.getD i [] = T := by rw [List.getD_eq_getElem?_getD, hT]; rfl
    rw [et] at hu2
    have ev : v = Value.ref t := hu2
    obtain ⟨y, ry, hy, _⟩ := I.tuple (SqT.of ht)
    refine ⟨t, ev, y.toArray, hy, ?_, by rw [List.getElem?_eq_getElem hix, et], ⟨t, rfl, by rw [eS]; exact ht⟩, ?_⟩
    · rw [eS]
      exact intsAre_of ry
    · rw [eS]
      exact List.mem_of_getElem? hT
  have keepI : ∀ b o, s.heap.get? b = some o → (s.heap.push { cls := .type "list_iterator", data := .fields #[.ref a, .int 0 0] }).get? b = some o := fun b o e => Heap.get?_push_of_some _ e
  refine ⟨s.heap.objs.size, [s.heap.objs.size, a], [s.heap.objs.size], its.toArray.size, _, _, fun i j => lx (Ss.getD i []) (Ss.getD j []), fun h => ∀ b o, s.heap.get? b = some o → h.get? b = some o, rfl,
    Walks.list (A := X.A.in1) (show X.A.in1.handled = none from I.ok.hd hc) s.heap.objs.size a hne2 its.toArray, ⟨⟨_, Heap.get?_push_size _ rfl, rfl, rfl⟩, hl.isList.at fun o e => keepI a o e⟩, fun b hb => ?_, hpos, fun S hS => ⟨fun h h' hG hk b o e => hk b o ?_ ?_ (hG b o e), ?_⟩, keepI, fun v h' tk hv kept => ?_⟩
  · rcases List.mem_cons.mp hb with rfl | hb
    · rw [Heap.size_push]
      exact Nat.lt_succ_self _
    · rw [List.mem_singleton.mp hb, Heap.size_push]
      exact Nat.lt_succ_of_lt hal
  · intro z
    rw [List.mem_singleton.mp z] at e
    exact Nat.lt_irrefl _ (Heap.lt_size e)
  · intro z
    have h1 := Heap.lt_size e
    rw [Heap.size_push] at hS
    rw [z] at h1
    exact absurd (Nat.lt_of_lt_of_le h1 (Nat.le_of_succ_le hS)) (Nat.lt_irrefl _)
  · intro i j vi vj s' Q' E' hG h1 h2 hq
    obtain ⟨t, rfl, y, hy, iy, _⟩ := key i vi h1
    obtain ⟨t2, rfl, y2, hy2, iy2, _⟩ := key j vj h2
    obtain ⟨o1, g1, c1⟩ := hy
    obtain ⟨o2, g2, c2⟩ := hy2
    refine richLt ⟨o1, hG _ o1 g1, c1⟩ ⟨o2, hG _ o2 g2, c2⟩ iy iy2 hu ?_
    rw [lexLt_lx]
    exact hq
  · obtain ⟨t, rfl, y, hy, iy, hx, hT, hm⟩ := key _ v hv
    refine ⟨.ref t, H, ?_, rfl, q _ _ (List.mem_of_getElem? hx) hm hT fun T hT => ?_⟩
    · exact I.kept (t' := tk) fun b o e => kept b o (fun z => by
        rw [List.mem_singleton.mp z] at e
        exact Nat.lt_irrefl _ (Heap.lt_size e)) (keepI b o e)
    · obtain ⟨i, hi, rfl⟩ := List.getElem_of_mem hT
      have := argBest_least (fun i j => lx (Ss.getD i []) (Ss.getD j [])) (fun i => lx_irrefl _) (fun i j k h1 h2 => lx_trans h1 h2) (its.toArray.size - 1) i (by omega)
      have e : Ss.getD i [] = Ss[i] := by rw [List.getD_eq_getElem?_getD, List.getElem?_eq_getElem hi]; rfl
      rw [← e]
      exact this
end
end KW
end
section
namespace KW
open PySem PySem.Spec PyProof.Rows L2
section
variable {prog : Program} {w : World} {A : Around} {E : Value → Shared → Prop} {s : Shared}
theorem adjust_rev (n : Nat) : Builtin.Slice.sliceAdjust none none (-1) (n : Int) = ((n : Int) - 1, -1) := by
  first
    | rfl
    | simp [Builtin.Slice.sliceAdjust]
theorem places_rev (n : Nat) : Builtin.Slice.slicePlaces ((n : Int) - 1) (-1) (-1) = n := by
  unfold Builtin.Slice.slicePlaces
  rw [if_neg (by decide)]
  by_cases h : (n : Int) - 1 > -1
  · rw [if_pos h, show (-(-1 : Int)) = 1 by decide, Int.ediv_one]
    omega
  · rw [if_neg h]
    omega
theorem pick_rev (xs : Array Value) : ((List.range xs.size).filterMap fun (k : Nat) => xs[((xs.size : Int) - 1 + (k : Int) * (-1)).toNat]?).toArray = xs.toList.reverse.toArray := by
  congr 1
  have e : ∀ l : List Nat, (∀ k ∈ l, k < xs.size) → l.filterMap (fun (k : Nat) => xs[((xs.size : Int) - 1 + (k : Int) * (-1)).toNat]?) = (l.map fun k => xs.size - 1 - k).filterMap (xs[·]?) := by
    intro l hl
    induction l with
    | nil => rfl
    | cons k l ih =>
      have hk := hl k List.mem_cons_self
      have e1 : ((xs.size : Int) - 1 + (k : Int) * (-1)).toNat = xs.size - 1 - k := by omega
      rw [List.map_cons, List.filterMap_cons, List.filterMap_cons, ih fun j hj => hl j (List.mem_cons_of_mem _ hj), e1]
  rw [e _ fun k hk => List.mem_range.mp hk, PySem.W.krv_range, List.filterMap_reverse, PySem.W.krv_all]
/-- t[::-1] -/
theorem getItem_tuple_rev {t sl : Addr} {items : Array Value} {vs : Value} {Q : Value → Shared → Prop} (ht : IsTup s.heap t items) (hs : s.heap.IsSliceOf sl .none .none vs) (ps : IsPart vs (some (-1)))
    (h : Q (.ref s.heap.objs.size) { s with heap := s.heap.push { cls := .type "tuple", data := .seq items.toList.reverse.toArray } })
    (hsz : items.size ≤ sizeLine) : wpAny (model prog w) A (getItem (.ref t) (.ref sl)) Q E s := by
  have hok : sizeOk (.seq items.toList.reverse.toArray) := by
    show items.toList.reverse.toArray.size ≤ sizeLine
    rw [List.size_toArray, List.length_reverse, Array.length_toList]
    exact hsz
  obtain ⟨os, hos, hcs, hds⟩ := id hs
  have hTs : s.TypeIs (.ref sl) "slice" := ⟨os, hos, hcs⟩
  unfold getItem
  refine wpAny_holding ?_
  refine wpAny_bind (wpAny_sequenceKey ht.typeIs (by decide) ?_)
  refine wpAny_bind (wpAny_callSpecial?_slot (name := Str.ofString "__getitem__") ht.typeIs PyProof.Rows.slot_tuple_getitem
    (wpAny_call_entry PyProof.Rows.slot_tuple_getitem ht.typeIs entry_tuple_getitem ?_ (args_tuple_getitem _ _)))
  show wpAny _ _ (Builtin.Tuple.tupleItemsOf (.ref t) >>= _) _ _ s
  refine wpAny_bind (tupleItemsOf_ ht ?_)
  refine wpAny_bind (wpAny_typeOf hTs ?_)
  rw [if_pos (by decide)]
  refine wpAny_bind ?_
  unfold Builtin.Slice.sliceApplied Builtin.Slice.sliceFields
  refine wpAny_bind (wpAny_bind (wpAny_field hos hds (x := .none) rfl (wpAny_bind (wpAny_field hos hds (x := .none) rfl (wpAny_bind (wpAny_field hos hds (x := vs) rfl (wpAny_pure ?_)))))))
  refine wpAny_bind (HT.slicePart_ ps ?_)
  show wpAny _ _ (if ((-1 : Int) == 0) = true then _ else _) _ _ s
  rw [if_neg (by decide)]
  refine wpAny_bind (HT.slicePart_ .none (wpAny_bind (HT.slicePart_ .none (wpAny_bind (wpAny_pure ?_)))))
  show wpAny _ _ (match Builtin.Slice.sliceAdjust none none (-1) (items.size : Int) with | (lo, hi) => pure (lo, (-1 : Int), Builtin.Slice.slicePlaces lo hi (-1))) _ _ s
  rw [adjust_rev]
  show wpAny _ _ (pure ((items.size : Int) - 1, (-1 : Int), Builtin.Slice.slicePlaces ((items.size : Int) - 1) (-1) (-1))) _ _ s
  rw [places_rev]
  refine wpAny_pure ?_
  have hno : ¬ (((items.size : Int) - 1 == 0 && (-1 : Int) == 1 && items.size == items.size) = true) := by
    intro q
    rw [Bool.and_eq_true, Bool.and_eq_true] at q
    exact absurd q.1.2 (by decide)
  show wpAny _ _ (if ((items.size : Int) - 1 == 0 && (-1 : Int) == 1 && items.size == items.size) = true then _ else _) _ _ s
  rw [if_neg hno, pick_rev]
  first
    | exact wpAny_bind (m := Builtin.Tuple.tupleExact _) (wpAny_newObj_type (wpAny_pure ⟨_, rfl, wpAny_pure h⟩) hok)
    | exact wpAny_bind (m := Builtin.Tuple.tupleExact _) (wpAny_newObj_type (wpAny_bind (wpAny_pure (wpAny_pure ⟨_, rfl, wpAny_pure h⟩))) hok)
    | exact wpAny_bind (wpAny_bind (m := Builtin.Tuple.tupleExact _) (wpAny_newObj_type (wpAny_pure (wpAny_pure ⟨_, rfl, wpAny_pure h⟩)) hok))
    | exact wpAny_bind (wpAny_bind (m := Builtin.Tuple.tupleExact _) (wpAny_newObj_type (wpAny_pure ⟨_, rfl, wpAny_pure h⟩) hok))
end
section
variable {X : Cx}
def tRevT (K : PySem.W.Frag) (te : TE) : TE := fun σ H Q => te σ H fun x H1 => ∃ a xs, x = .ref a ∧ SqT K H1 a xs ∧ ∀ p, H1 p = none → Q (.ref p) (upd H1 p (.tup xs.reverse))
theorem pe_revT {e : Expr} {te : TE} {k : Nat} {p1 p2 p3 pos : Pos} (he : PE X e te) : PE X (.Subscript e (.Slice none none (some (.UnaryOp .USub (.Constant (.int 1) k p1) p2)) p3) pos) (tRevT X.K te) := by
  refine ⟨fun pins s σ H Q I h => ?_⟩
  refine Subscript_ (thn (he.run pins s σ H _ I h) fun v s1 ⟨x, H1, I1, r1, a, xs, ex, hx, q⟩ => ?_)
  subst ex
  cases r1
  refine wpAny_Slice (thn (po_none.run pins s1 σ H1 (fun o H2 => o = none ∧ H2 = H1) I1 ⟨rfl, rfl⟩) fun vl s2 ⟨l, H2, I2, pl, el, e2⟩ => ?_)
  subst el e2
  refine thn (po_none.run pins s2 σ H2 (fun o H3 => o = none ∧ H3 = H2) I2 ⟨rfl, rfl⟩) fun vu s3 ⟨u, H3, I3, pu, eu, e3⟩ => ?_
  subst eu e3
  have hst : PO X (some (.UnaryOp .USub (.Constant (.int 1) k p1) p2)) _ := po_some (pe_un un_neg pe_int)
  refine thn (hst.run pins s3 σ H3 (fun o H4 => o = some (-1) ∧ H4 = H3) I3 ⟨1, rfl, -1, rfl, rfl, rfl⟩) fun vs s4 ⟨o, H4, I4, ps, eo, e4⟩ => ?_
  subst eo e4
  cases pl
  cases pu
  have I5 := I4.kept (t' := s4.toks) (h' := s4.heap.push { cls := .type "slice", data := .fields #[.none, .none, vs] }) fun b ob q => Heap.get?_push_of_some _ q
  obtain ⟨its, r, ht, hz⟩ := I5.tuple hx
  refine tail_any (ops := [.ref a, .ref s4.heap.objs.size]) ht.typeIs PyProof.Rows.slot_tuple_getitem.lookup ?_ (by with_unfolding_all rfl)
  refine getItem_tuple_rev ht (Heap.IsSliceOf.new _ .none .none vs) ps ?_ (by rw [List.size_toArray, ← r.length]; exact hz)
  refine ⟨.ref _, _, I5.laid (t' := s4.toks) (o := .tup xs.reverse) (fun b ob q => Heap.get?_push_of_some _ q) (Nat.le_refl _) ?_, rfl, q _ (I5.hok.fresh (Nat.le_refl _))⟩
  exact ⟨by rw [List.length_reverse]; exact hz, _, r.reverse, IsTup.new _ _⟩
end
end KW
end
section
namespace KW
open PySem PySem.Spec PyProof.Rows L2
section
variable {X : Cx}
/-- x not in t, t a tuple of data -/
def rNotInT (K : PySem.W.Frag) : R2 := fun x y H Q => ∃ d ds, Dp K H x d ∧ Dp K H y (.tuple ds) ∧ SeqAt.shaped d = true ∧ SeqAt.shaped (.tuple ds) = true ∧ Q (.bl (!ds.any fun z => PyData.eqv z d)) H
theorem op_notInT (hu : X.A.units + 65 < cLine) : OpR X (compareOp .NotIn) (rNotInT X.K) := by
  intro pins s σ H x y v u Q I rx ry h
  obtain ⟨d, ds, hd, he, sd, se, q⟩ := h
  obtain ⟨as, r1⟩ := Dp.reads I d x v hd rx
  obtain ⟨bs, r2⟩ := Dp.reads I (.tuple ds) y u he ry
  exact SeqAt.notIn_tuple_reads r2 r1 (SeqAt.canLay_of_shaped se) (SeqAt.canLay_of_shaped sd) (room_in_shaped sd hu) ⟨.bl _, H, I, rfl, q⟩
/-- sorted of a list of at most one item -/
def rSort1 (K : PySem.W.Frag) : List V → Hp → VK → Prop := fun vs H Q => ∃ (a : Addr) (xs : List V), vs = [V.ref a] ∧ SqL K H a xs ∧ xs.length ≤ 1 ∧ ∀ p : Addr, H p = none → Q (.ref p) (upd H p (.lst xs))
end
section
variable {prog : Program} {w : World} {A : Around} {E : Value → Shared → Prop} {s : Shared}
theorem perm_one {α : Type} {a b : List α} (h : a.Perm b) (hl : b.length ≤ 1) : a = b := by
  match b, hl with
  | [], _ => exact h.eq_nil
  | [x], _ => exact List.perm_singleton.mp h
  | x :: y :: l, hl =>
    rw [List.length_cons, List.length_cons] at hl
    omega
theorem sorted_one {l : Addr} {vs : List Value} {Q : Value → Shared → Prop} (hl : s.heap.IsList l vs.toArray) (h1 : vs.length ≤ 1)
    (h : Q (.ref (s.heap.objs.size + 1)) { s with heap := sortedAll s.heap vs vs.toArray }) : wpAny (model prog w) A (call (.builtin "sorted") [.ref l]) Q E s := by
  refine Calls.call_function_entry kind_sorted plain_sorted entry_sorted (args_sorted1 _) ?_
  unfold Builtin.«sorted»
  refine wpAny_bind (m := checkCount "sorted" 1 1 _) (wpAny_pure ?_)
  refine wpAny_bind (collect_list hl ?_ (by show vs.length ≤ sizeLine; rw [sizeLine_eq]; omega))
  refine wpAny_bind (wpAny_newList ?_ (by show vs.length ≤ sizeLine; rw [sizeLine_eq]; omega))
  have hsz : ((s.heap.push (seqObj "list" #[] 0)).update s.heap.objs.size (Obj.mapSeq (· ++ vs.toArray))).objs.size = s.heap.objs.size + 1 := by
    rw [Heap.size_update, size_push']
  have hoL := Heap.get?_push_size ((s.heap.push (seqObj "list" #[] 0)).update s.heap.objs.size (Obj.mapSeq (· ++ vs.toArray))) (o := seqObj "list" vs.toArray 0) rfl
  rw [hsz] at hoL
  show wpAny _ _ _ _ _ { s with heap := ((s.heap.push (seqObj "list" #[] 0)).update s.heap.objs.size (Obj.mapSeq (· ++ vs.toArray))).push (seqObj "list" vs.toArray 0) }
  rw [hsz]
  refine wpAny_bind (wpAny_holding (wpAny_call_entry slot_list_sort ⟨_, hoL, rfl⟩ entry_list_sort (SK.plain_sort (r := fun _ => 0) hoL (by omega) (fun h2 => by omega) fun ps out a1 a2 _ => ⟨_, rfl, ?_⟩) (args_list_sort _)))
  have e : out = vs.toArray := by
    have z := perm_one a2 (by rw [List.length_zip]; omega)
    rw [z, List.map_snd_zip (Nat.le_refl _)] at a1
    rw [← a1]
  rw [e]
  exact wpAny_pure ⟨_, rfl, h⟩
end
section
variable {X : Cx}
theorem cr_sort1 : CallR X (.builtin "sorted") (rSort1 X.K) := by
  intro pins s σ H vs us Q I r h
  obtain ⟨a, xs, rfl, hs, h1, q⟩ := h
  obtain ⟨its, rv, hl, hz⟩ := I.list hs
  rw [Vals.ref1 r]
  refine sorted_one hl.isList (by rw [← rv.length]; exact h1) ?_
  obtain ⟨ep, he'⟩ := PyProof.Rows.sortedAll_at s.heap its its.toArray
  exact ⟨.ref _, upd H (s.heap.objs.size + 1) (.lst xs), I.laid (t' := s.toks) (fun _ _ => PyProof.Rows.sortedAll_old) (Nat.le_succ _) ⟨hz, its, ep, rv, he'⟩, rfl, q _ (I.hok.fresh (Nat.le_succ _))⟩
end
end KW
end
section
namespace PySem
open Sem (wp)
open AutoSeq1 (wpAny_loadPart')
theorem meets_enumerate_newT {v : Value} {o : Obj} {H : Heap → Prop} (B : Begins v o H) :
    Meets (Builtin.«enumerate.__new__» ⟨[.type "enumerate", v], []⟩) (fun _ R s => H s.heap ∧
      R (.ok (.ret (.ref (s.heap.push o).objs.size))) { s with heap := (s.heap.push o).push { cls := .type "enumerate", data := .fields #[.none, .bool false, .ref s.heap.objs.size, rawInt 0, .none, .none] } }) :=
  .of_wp fun prog w A R s h => by
    obtain ⟨hp, g, d, tk, os⟩ := s; obtain ⟨h1, h⟩ := h
    have hsub := sub_enumerate
    have q1 : ∀ {A' : Around} {E : Value → Shared → Prop} {Q : Value → Shared → Prop}, Q (.ref hp.objs.size) ⟨hp.push o, g, d, tk, os⟩ → wpAny (model prog w) A' (pyIter v) Q E ⟨hp, g, d, tk, os⟩ :=
      fun q => B.iter prog w _ _ ⟨hp, g, d, tk, os⟩ _ h1 q
    wp_walk using q1
    refine wpAny_stack_any fun st => wpAny_pure ?_
    split
    · rename_i c _ _ _ _ _
      cases (c == Value.type "enumerate")
      · wp_walk using q1
        exact ⟨_, rfl, h⟩
      · wp_walk using q1
        exact ⟨_, rfl, h⟩
    · wp_walk using q1
      exact ⟨_, rfl, h⟩
end PySem
namespace KW
open PySem PySem.Spec PyProof.Rows L2 KM
theorem call_enumerate_tuple {prog : Program} {w : World} {A : Around} {E : Value → Shared → Prop} {s : Shared} {t : Addr} {items : Array Value} {Q : Value → Shared → Prop} (hT : s.heap.IsTuple t items)
    (h : ∀ h', IsEnum h' (s.heap.objs.size + 1) s.heap.objs.size 0 .none → h'.IsTupleIter s.heap.objs.size t 0 → (∀ b o, s.heap.get? b = some o → h'.get? b = some o) → Q (.ref (s.heap.objs.size + 1)) { s with heap := h' }) :
    wpAny (model prog w) A (call (.type "enumerate") [.ref t]) Q E s := by
  have B := begins_tuple t items
  refine callType_new F.called_enumerate (by decide) (F.typeCall_enumerate_1 _) (F.newCall_enumerate_1 _) (fun obj => F.args_object_init_2 obj _) F.entry_enumerate_new (meets_enumerate_newT B) ⟨hT, ?_⟩
  have hz := Heap.size_push s.heap { cls := .type "tuple_iterator", data := .fields #[.ref t, .int 0 0] }
  have he := Heap.get?_push_size (s.heap.push { cls := .type "tuple_iterator", data := .fields #[.ref t, .int 0 0] }) (o := { cls := .type "enumerate", data := .fields #[.none, .bool false, .ref s.heap.objs.size, rawInt 0, .none, .none] }) rfl
  show _ ∧ _
  rw [hz] at he ⊢
  exact ⟨⟨_, he, rfl⟩, h _ he ⟨_, Heap.get?_push_of_some _ (Heap.get?_push_size _ rfl), rfl, rfl⟩ fun b o x => Heap.get?_push_of_some _ (Heap.get?_push_of_some _ x)⟩
/-- the tuple at a as it stands, the items in new pairs with their places -/
def Itet (K : PySem.W.Frag) (a : Addr) : It :=
  ⟨fun i H => ∃ (xs : List V) (x : V), SqT K H a xs ∧ xs[i]? = some x, fun i H v H' => ∃ T x, v = .ref T ∧ H T = none ∧ H' = upd H T (.tup [.int (i : Nat), x]) ∧ ∀ xs, SqT K H a xs → xs[i]? = some x, fun i H => ∃ xs : List V, SqT K H a xs ∧ xs.length = i⟩
theorem tuple_inj {X : Cx} {pins : List (Addr × Obj)} {σ : L2.St} {H : Hp} {s : Shared} (I : L2.Inv X pins σ H s) {a : Addr} {xs ys : List V} (h : SqT X.K H a xs) (g : SqT X.K H a ys) : xs = ys := by
  obtain ⟨i1, r1, ⟨o1, e1, _, n1, d1⟩, _⟩ := I.tuple h
  obtain ⟨i2, r2, ⟨o2, e2, _, n2, d2⟩, _⟩ := I.tuple g
  rw [e1] at e2
  cases e2
  rw [d1] at d2
  injection d2 with d2 _
  have : i1 = i2 := by simpa using d2
  subst this
  exact r1.inj r2
theorem turn_enumT {P : Program} {w : World} {K : PySem.W.Frag} {elts : List Expr} {kk : Nat} {tpos : Pos} (a e it : Addr) :
    Turn P w K (.Tuple elts kk tpos) (Itet K a) [e, it] e (fun i h => (∃ old, IsEnum h e it ((i : Nat) : Int) old) ∧ h.IsTupleIter it a i ∧ e ≠ it) where
  mem := by simp
  obj := fun i h st b hb => by
    obtain ⟨⟨old, he⟩, ⟨o, ho, hc, hd⟩, _⟩ := st
    rcases List.mem_cons.mp hb with z | z
    · rw [z]
      exact ⟨_, he, fun v q => nomatch q⟩
    · rw [List.mem_singleton.mp z]
      exact ⟨o, ho, fun v q => by rw [hd] at q; cases q⟩
  keep := fun i h h' st k => let ⟨⟨old, he⟩, hi, hne⟩ := st; ⟨⟨old, k e (by simp) _ he⟩, hi.at fun o q => k it (by simp) o q, hne⟩
  item := by
    intro X hP hw hK hc i pins s σ H E I hf st hg
    subst hP hw hK
    obtain ⟨⟨old, he⟩, hit, hne⟩ := st
    obtain ⟨xs, x, hq, hx⟩ := hg
    obtain ⟨its, rv, p, hz⟩ := I.tuple hq
    obtain ⟨u, hu, ru⟩ := rv.get hx
    have hel : e < s.heap.objs.size := Heap.lt_size he
    have hil : it < s.heap.objs.size := by obtain ⟨_, q, _⟩ := hit; exact Heap.lt_size q
    have hai : a ≠ it := fun z => by
      obtain ⟨o1, g1, c1, _⟩ := p
      obtain ⟨o2, g2, c2, _⟩ := hit
      rw [z, g2] at g1
      cases g1
      rw [c2] at c1
      injection c1 with c1
      exact absurd c1 (by decide)
    have hea : e ≠ a := fun z => by
      obtain ⟨o1, g1, c1, _⟩ := p
      have he' : s.heap.get? e = some _ := he
      rw [z, g1] at he'
      have he'' := Option.some.inj he'
      rw [he''] at c1
      injection c1 with c1
      exact absurd c1 (by decide)
    have hef : e ∉ [it, a] := fun z => by
      rcases List.mem_cons.mp z with z | z
      · exact hne z
      · exact hea (List.mem_singleton.mp z)
    have hi : i < its.toArray.size := by
      have : its[i]? = some u := hu
      rw [List.size_toArray]
      exact (List.getElem?_eq_some_iff.mp this).1
    refine wpAny_pyNext_enum_itemC (Draws.tuple (A := X.A.in1) (I.ok.hd hc) it a hai its.toArray) he ⟨hit, p⟩ hi hne hef fun y h' tk hy ho hit' hT hsz hk => ?_
    have hyu : y = u := by
      have h1 : its[i]? = some y := by simpa using hy
      rw [hu] at h1
      exact (Option.some.inj h1).symm
    subst hyu
    refine ⟨_, rfl, wpAny_letOwnedTupleGo_enum (s := { s with heap := h', toks := tk + 1 }) ho fun h'' he' sb => ?_⟩
    have hT2 := (sb.2 _ (Nat.ne_of_gt hel)).trans hT
    have new : ObjOk X.prog X.w (upd H s.heap.objs.size (.tup [.int (i : Nat), x])) h'' s.heap.objs.size (.tup [.int (i : Nat), x]) :=
      ⟨by show 2 ≤ sizeLine; decide, [.int i tk, y], .cons ⟨_, rfl⟩ (.cons ru .nil), ⟨_, hT2, rfl, _, rfl⟩⟩
    have I1 := I.turnedNew (t' := tk + 1) (ch := [e, it]) (fun b ob hb q => (sb.2 b (fun z => hb (by simp [z]))).trans (hk b ob (fun z => hb (by simp [z])) (fun z => hb (by simp [z])) q)) hf (Nat.le_refl _) new
    refine ⟨.ref s.heap.objs.size, _, I1, rfl, ⟨_, x, rfl, I.hok.fresh (Nat.le_refl _), rfl, fun ys hy => by rw [tuple_inj I hy hq]; exact hx⟩, ⟨⟨y, ?_⟩, hit'.1.at fun o q => (sb.2 it (Ne.symm hne)).trans q, hne⟩, fun b hb => ?_⟩
    · have e1 : ((i + 1 : Nat) : Int) = (i : Int) + 1 := by omega
      rw [e1]
      exact he'
    · have hb' : b < s.heap.objs.size := by
        rcases List.mem_cons.mp hb with z | z
        · rw [z]; exact hel
        · rw [List.mem_singleton.mp z]; exact hil
      rw [upd_ne (Nat.ne_of_lt hb')]
      exact (hf b hb).1
  done := by
    intro X hP hw hK hc i pins s σ H E I hf st hg
    subst hP hw hK
    obtain ⟨⟨old, he⟩, hit, hne⟩ := st
    obtain ⟨xs, hq, hx⟩ := hg
    obtain ⟨its, rv, p, hz⟩ := I.tuple hq
    obtain ⟨f0, f1, f2, f3, f4, f5⟩ := hf it (by simp)
    have hl := rv.length
    have hai : a ≠ it := fun z => by
      obtain ⟨o1, g1, c1, _⟩ := p
      obtain ⟨o2, g2, c2, _⟩ := hit
      rw [z, g2] at g1
      cases g1
      rw [c2] at c1
      injection c1 with c1
      exact absurd c1 (by decide)
    have hin : i = its.toArray.size := by
      rw [List.size_toArray, ← hl, hx]
    subst hin
    exact wpAny_pyNext_enum_endD (Draws.tuple (A := X.A.in1) (I.ok.hd hc) it a hai its.toArray) he ⟨hit, p⟩ fun h' eb => ⟨rfl, I.turned (t' := s.toks) (fun b o hb q => eb b o hb q) f0 f1 f3 f4 f5⟩
  self := fun A i s Q E st h => let ⟨⟨_, he⟩, _⟩ := st; wpAny_pyIter_enum he h
def iEnumT (K : PySem.W.Frag) (ta : TA) : TI := fun σ H R => ta σ H fun vs H1 => ∃ a xs, vs = [.ref a] ∧ SqT K H1 a xs ∧ R (Itet K a) H1
theorem pi_enumT {X : Cx} {e : Expr} {ta : TA} {p pos tpos : Pos} {elts : List Expr} {kk : Nat} (hg : Gl X "enumerate") (hm : X.mg "enumerate" = none) (ha : PA X [e] ta) (hs : starEach [e] X.env = [(false, eval e X.env)] := by rfl) :
    PI X (.Tuple elts kk tpos) (.Call (.Name "enumerate" p) [e] [] pos) (iEnumT X.K ta) := by
  refine ⟨fun pins s σ H R I h => ?_⟩
  refine Call_ (ld_blt I hg hm boot_enumerate (PyProof.Rows.callWith_type1 (thn (ha.run pos pins s σ H _ I h) fun us s1 ⟨vs, H1, I1, r1, a, xs, ex, hq, q⟩ => ?_) hs rfl))
  subst ex
  cases r1 with
  | cons r rr =>
    cases rr
    cases r
    obtain ⟨its, rv, p', hz⟩ := I1.tuple hq
    refine call_enumerate_tuple p' fun h' he hit hk => wpAny_pyIter_enum he ?_
    have I2 := I1.kept (t' := s1.toks) hk
    refine ⟨s1.heap.objs.size + 1, [s1.heap.objs.size + 1, s1.heap.objs.size], _, _, H1, rfl, I2, turn_enumT a (s1.heap.objs.size + 1) s1.heap.objs.size, ⟨⟨.none, he⟩, hit, Nat.succ_ne_self _⟩, fun b hb => ?_, q⟩
    have hle : s1.heap.objs.size ≤ b := by
      rcases List.mem_cons.mp hb with z | z
      · rw [z]; exact Nat.le_add_right _ _
      · rw [List.mem_singleton.mp z]; exact Nat.le_refl _
    exact I1.fpOk hle (I1.hok.fresh hle)
theorem walk_enumT {K : PySem.W.Frag} {a : Addr} {xs : List V} : Walk (Itet K a) xs.length (fun H => SqT K H a xs) (YPair (fun i => some (.int (i : Nat))) (fun i => xs[i]?)) := by
  refine ⟨fun i _ hi q => ⟨xs, xs[i], q, by simp [hi]⟩, fun _ q => ⟨xs, q, rfl⟩, fun i H v H' _ q y => ?_⟩
  obtain ⟨T, x, h1, h2, h3, h4⟩ := y
  exact ⟨T, .int (i : Nat), x, h1, h2, h3, rfl, h4 xs q⟩
end KW
end
section
namespace KW
open PySem PySem.Spec PyProof.Rows L2 KM
/-! ### the text -/
def topS (i : Nat) : Stmt := PySem.Challenge.pw_stronggens_k86_whole_sets_listed.main.body.getD i (.Pass ⟨0, 0, 0, 0⟩)
abbrev s_is_int : Stmt := topS 6
abbrev N_is_int : List Str := ["value"]
theorem sc_is_int : FnScope ["value"] ["value"] (defScope s_is_int) :=
  ⟨rfl, rfl, rfl, by decide +kernel, rfl, by decide +kernel, by decide +kernel⟩
abbrev s_is_in : Stmt := topS 7
abbrev N_is_in : List Str := ["value", "least", "most"]
theorem sc_is_in : FnScope ["value", "least", "most"] ["value", "least", "most"] (defScope s_is_in) :=
  ⟨rfl, rfl, rfl, by decide +kernel, rfl, by decide +kernel, by decide +kernel⟩
abbrev s_is_perm : Stmt := topS 8
abbrev N_is_perm : List Str := ["degree", "value", "seen", "image"]
theorem sc_is_perm : FnScope ["degree", "value", "seen", "image"] ["degree", "value"] (defScope s_is_perm) :=
  ⟨rfl, rfl, rfl, by decide +kernel, rfl, by decide +kernel, by decide +kernel⟩
abbrev s_need_group : Stmt := topS 11
abbrev N_need_group : List Str := ["group", "index", "p"]
theorem sc_need_group : FnScope ["group", "index", "p"] ["group"] (defScope s_need_group) :=
  ⟨rfl, rfl, rfl, by decide +kernel, rfl, by decide +kernel, by decide +kernel⟩
abbrev s_image_of : Stmt := topS 13
abbrev N_image_of : List Str := ["points", "p", "x"]
theorem sc_image_of : FnScope ["points", "p", "x"] ["points", "p"] (defScope s_image_of) :=
  ⟨rfl, rfl, rfl, by decide +kernel, rfl, by decide +kernel, by decide +kernel⟩
abbrev s_set_ways : Stmt := topS 14
abbrev N_set_ways : List Str := ["gens", "points", "found", "ways", "at", "k", "other"]
theorem sc_set_ways : FnScope ["gens", "points", "found", "ways", "at", "k", "other"] ["gens", "points"] (defScope s_set_ways) :=
  ⟨rfl, rfl, rfl, by decide +kernel, rfl, by decide +kernel, by decide +kernel⟩
abbrev s_sets_of : Stmt := topS 15
abbrev N_sets_of : List Str := ["degree", "size", "found", "point", "some"]
theorem sc_sets_of : FnScope ["degree", "size", "found", "point", "some"] ["degree", "size"] (defScope s_sets_of) :=
  ⟨rfl, rfl, rfl, by decide +kernel, rfl, by decide +kernel, by decide +kernel⟩
abbrev s_least_sets : Stmt := topS 16
abbrev N_least_sets : List Str := ["group", "size", "found", "seen", "some", "other"]
theorem sc_least_sets : FnScope ["group", "size", "found", "seen", "some", "other"] ["group", "size"] (defScope s_least_sets) :=
  ⟨rfl, rfl, rfl, by decide +kernel, rfl, by decide +kernel, by decide +kernel⟩
abbrev s_set_counts : Stmt := topS 17
abbrev N_set_counts : List Str := ["group", "size"]
theorem sc_set_counts : FnScope ["group", "size"] ["group"] (defScope s_set_counts) :=
  ⟨rfl, rfl, rfl, by decide +kernel, rfl, by decide +kernel, by decide +kernel⟩
abbrev s_z_taken : Stmt := topS 19
abbrev N_z_taken : List Str := ["_law_row", "_law_many", "_law_found", "_law_cell"]
theorem sc_z_taken : FnScope ["_law_row", "_law_many", "_law_found", "_law_cell"] ["_law_row", "_law_many"] (defScope s_z_taken) :=
  ⟨rfl, rfl, rfl, by decide +kernel, rfl, by decide +kernel, by decide +kernel⟩
abbrev s_z_small : Stmt := topS 20
abbrev N_z_small : List Str := ["_law_found"]
theorem sc_z_small : FnScope ["_law_found"] ([] : List Str) (defScope s_z_small) :=
  ⟨rfl, rfl, rfl, by decide +kernel, rfl, by decide +kernel, by decide +kernel⟩
abbrev s_z_large : Stmt := topS 21
abbrev N_z_large : List Str := ["_law_found", "_law_three"]
theorem sc_z_large : FnScope ["_law_found", "_law_three"] ([] : List Str) (defScope s_z_large) :=
  ⟨rfl, rfl, rfl, by decide +kernel, rfl, by decide +kernel, by decide +kernel⟩
abbrev s_z_pick : Stmt := topS 22
abbrev N_z_pick : List Str := ["_law_row", "_law_things"]
theorem sc_z_pick : FnScope ["_law_row", "_law_things"] ["_law_row", "_law_things"] (defScope s_z_pick) :=
  ⟨rfl, rfl, rfl, by decide +kernel, rfl, by decide +kernel, by decide +kernel⟩
abbrev s_z_perm : Stmt := topS 23
abbrev N_z_perm : List Str := ["_law_row", "_law_degree", "_law_found", "_law_at", "_law_other"]
theorem sc_z_perm : FnScope ["_law_row", "_law_degree", "_law_found", "_law_at", "_law_other"] ["_law_row", "_law_degree"] (defScope s_z_perm) :=
  ⟨rfl, rfl, rfl, by decide +kernel, rfl, by decide +kernel, by decide +kernel⟩
abbrev s_z_mul : Stmt := topS 24
abbrev N_z_mul : List Str := ["_law_p", "_law_q", "_law_image_here"]
theorem sc_z_mul : FnScope ["_law_p", "_law_q", "_law_image_here"] ["_law_p", "_law_q"] (defScope s_z_mul) :=
  ⟨rfl, rfl, rfl, by decide +kernel, rfl, by decide +kernel, by decide +kernel⟩
abbrev s_z_inv : Stmt := topS 25
abbrev N_z_inv : List Str := ["_law_p", "_law_found", "_law_point"]
theorem sc_z_inv : FnScope ["_law_p", "_law_found", "_law_point"] ["_law_p"] (defScope s_z_inv) :=
  ⟨rfl, rfl, rfl, by decide +kernel, rfl, by decide +kernel, by decide +kernel⟩
abbrev s_z_conj : Stmt := topS 26
abbrev N_z_conj : List Str := ["_law_p", "_law_g"]
theorem sc_z_conj : FnScope ["_law_p", "_law_g"] ["_law_p", "_law_g"] (defScope s_z_conj) :=
  ⟨rfl, rfl, rfl, by decide +kernel, rfl, by decide +kernel, by decide +kernel⟩
abbrev s_z_unit : Stmt := topS 27
abbrev N_z_unit : List Str := ["_law_degree"]
theorem sc_z_unit : FnScope ["_law_degree"] ["_law_degree"] (defScope s_z_unit) :=
  ⟨rfl, rfl, rfl, by decide +kernel, rfl, by decide +kernel, by decide +kernel⟩
abbrev s_z_known : Stmt := topS 28
abbrev N_z_known : List Str := ["_law_row", "_law_degree", "_law_most", "_law_told", "_law_some", "_law_moved", "_law_gens", "_law_p"]
theorem sc_z_known : FnScope ["_law_row", "_law_degree", "_law_most", "_law_told", "_law_some", "_law_moved", "_law_gens", "_law_p"] ["_law_row", "_law_degree", "_law_most"] (defScope s_z_known) :=
  ⟨rfl, rfl, rfl, by decide +kernel, rfl, by decide +kernel, by decide +kernel⟩
abbrev s_z_group : Stmt := topS 29
abbrev N_z_group : List Str := ["_law_row", "_law_degree", "_law_most", "_law_few", "_law_size", "_law_at"]
theorem sc_z_group : FnScope ["_law_row", "_law_degree", "_law_most", "_law_few", "_law_size", "_law_at"] ["_law_row", "_law_degree", "_law_most"] (defScope s_z_group) :=
  ⟨rfl, rfl, rfl, by decide +kernel, rfl, by decide +kernel, by decide +kernel⟩
abbrev s_z_closure : Stmt := topS 30
abbrev N_z_closure : List Str := ["_law_degree", "_law_gens", "_law_found", "_law_seen", "_law_at", "_law_turn", "_law_g", "_law_p"]
theorem sc_z_closure : FnScope ["_law_degree", "_law_gens", "_law_found", "_law_seen", "_law_at", "_law_turn", "_law_g", "_law_p"] ["_law_degree", "_law_gens"] (defScope s_z_closure) :=
  ⟨rfl, rfl, rfl, by decide +kernel, rfl, by decide +kernel, by decide +kernel⟩
abbrev s_z_alike : Stmt := topS 31
abbrev N_z_alike : List Str := ["_law_found", "_law_due", "_law_k"]
theorem sc_z_alike : FnScope ["_law_found", "_law_due", "_law_k"] ["_law_found", "_law_due"] (defScope s_z_alike) :=
  ⟨rfl, rfl, rfl, by decide +kernel, rfl, by decide +kernel, by decide +kernel⟩
abbrev s_z_counts : Stmt := topS 32
abbrev N_z_counts : List Str := ["_law_degree", "_law_every", "_law_found", "_law_p", "_law_kept", "_law_seen", "_law_point", "_law_ring", "_law_x", "_law_turn", "_law_size", "_law_k", "_law_many"]
theorem sc_z_counts : FnScope ["_law_degree", "_law_every", "_law_found", "_law_p", "_law_kept", "_law_seen", "_law_point", "_law_ring", "_law_x", "_law_turn", "_law_size", "_law_k", "_law_many"] ["_law_degree", "_law_every"] (defScope s_z_counts) :=
  ⟨rfl, rfl, rfl, by decide +kernel, rfl, by decide +kernel, by decide +kernel⟩
abbrev s_z_image : Stmt := topS 33
abbrev N_z_image : List Str := ["_law_points", "_law_p", "_law_x"]
theorem sc_z_image : FnScope ["_law_points", "_law_p", "_law_x"] ["_law_points", "_law_p"] (defScope s_z_image) :=
  ⟨rfl, rfl, rfl, by decide +kernel, rfl, by decide +kernel, by decide +kernel⟩
abbrev s_law : Stmt := topS 34
abbrev N_law : List Str := ["_law_script", "_law_row", "_law_group_here", "_law_degree", "_law_gens", "_law_every", "_law_size", "_law_counts_here", "_law_told", "_law_points", "_law_due", "_law_sets", "_law_point", "_law_some", "_law_p"]
theorem sc_law : FnScope ["_law_script", "_law_row", "_law_group_here", "_law_degree", "_law_gens", "_law_every", "_law_size", "_law_counts_here", "_law_told", "_law_points", "_law_due", "_law_sets", "_law_point", "_law_some", "_law_p"] ["_law_script"] (defScope s_law) :=
  ⟨rfl, rfl, rfl, by decide +kernel, rfl, by decide +kernel, by decide +kernel⟩
/-- the built-in names are the built-in ones -/
structure Bare (mg : Str → Option Value) : Prop where
  isi : mg "isinstance" = none
  int : mg "int" = none
  bool : mg "bool" = none
  str : mg "str" = none
  tuple : mg "tuple" = none
  list : mg "list" = none
  len : mg "len" = none
  range : mg "range" = none
  sorted : mg "sorted" = none
  enum : mg "enumerate" = none
  min : mg "min" = none
structure Consts (mg : Str → Option Value) : Prop where
  md : ∃ t, mg "MOST_DEGREE" = some (.int 12 t)
  mg : ∃ t, mg "MOST_GENERATORS" = some (.int 12 t)
/-- a def of the text, where it stands -/
structure Dfn (K : PySem.W.Frag) (mg : Str → Option Value) (x : Str) (st : Stmt) (ps : List Str) where
  f : Addr
  fd : FuncData
  F : Fun K x x st f fd
  g : mg x = some (.ref f)
  b : Binds K fd ps []
/-- all of them -/
structure Defs (K : PySem.W.Frag) (mg : Str → Option Value) where
  bare : Bare mg
  consts : Consts mg
  is_int : Dfn K mg "is_int" s_is_int ["value"]
  is_in : Dfn K mg "is_in" s_is_in ["value", "least", "most"]
  is_perm : Dfn K mg "is_perm" s_is_perm ["degree", "value"]
  need_group : Dfn K mg "need_group" s_need_group ["group"]
  image_of : Dfn K mg "image_of" s_image_of ["points", "p"]
  set_ways : Dfn K mg "set_ways" s_set_ways ["gens", "points"]
  sets_of : Dfn K mg "sets_of" s_sets_of ["degree", "size"]
  least_sets : Dfn K mg "least_sets" s_least_sets ["group", "size"]
  set_counts : Dfn K mg "set_counts" s_set_counts ["group"]
  z_taken : Dfn K mg "_law_taken" s_z_taken ["_law_row", "_law_many"]
  z_small : Dfn K mg "_law_small" s_z_small ([] : List Str)
  z_large : Dfn K mg "_law_large" s_z_large ([] : List Str)
  z_pick : Dfn K mg "_law_pick" s_z_pick ["_law_row", "_law_things"]
  z_perm : Dfn K mg "_law_perm" s_z_perm ["_law_row", "_law_degree"]
  z_mul : Dfn K mg "_law_mul" s_z_mul ["_law_p", "_law_q"]
  z_inv : Dfn K mg "_law_inv" s_z_inv ["_law_p"]
  z_conj : Dfn K mg "_law_conj" s_z_conj ["_law_p", "_law_g"]
  z_unit : Dfn K mg "_law_unit" s_z_unit ["_law_degree"]
  z_known : Dfn K mg "_law_known" s_z_known ["_law_row", "_law_degree", "_law_most"]
  z_group : Dfn K mg "_law_group" s_z_group ["_law_row", "_law_degree", "_law_most"]
  z_closure : Dfn K mg "_law_closure" s_z_closure ["_law_degree", "_law_gens"]
  z_alike : Dfn K mg "_law_alike" s_z_alike ["_law_found", "_law_due"]
  z_counts : Dfn K mg "_law_counts" s_z_counts ["_law_degree", "_law_every"]
  z_image : Dfn K mg "_law_image" s_z_image ["_law_points", "_law_p"]
  law : Dfn K mg "law" s_law ["_law_script"]
end KW
end
section
namespace KW
open PySem PySem.Spec PyProof.Rows L2 KM
/-! ### rules with the written part told (within a comprehension) -/
section
variable {X : Cx} {K : PySem.W.Frag}
theorem ixT (h : X.K = K := by rfl) : IxR X (rIxT K) := by
  subst h
  exact ix_tup
theorem ixL (h : X.K = K := by rfl) : IxR X (rIxL K) := by
  subst h
  exact ix_list
theorem catA (h : X.K = K := by rfl) : OpR X (binaryOp .Add) (rCatA K) := by
  subst h
  exact op_catA
theorem slA (h : X.K = K := by rfl) : SlR X (rSlA K) := by
  subst h
  exact sl_tupA
def rLenS (K : PySem.W.Frag) : List V → Hp → VK → Prop := fun xs H Q => ∃ p ys, xs = [.ref p] ∧ (SqL K H p ys ∨ SqT K H p ys) ∧ Q (.int ys.length) H
theorem lenS (h : X.K = K := by rfl) : CallR X (.builtin "len") (rLenS K) := by
  subst h
  exact call_len_seq
theorem notInT (hu : X.A.units + 65 < cLine) (h : X.K = K := by rfl) : OpR X (compareOp .NotIn) (rNotInT K) := by
  subst h
  exact op_notInT hu
end
end KW
end
section
namespace KW
open PySem PySem.Spec PyProof.Rows L2 KM
def ci (S : List Nat) : List Int := S.map fun n : Nat => (n : Int)
theorem ci_iv (S : List Nat) : (ci S).map V.int = iv S := rfl
theorem ci_bd {S : List Nat} (h : ∀ x ∈ S, x < 100) : TS.Bd 100 (ci S) := fun m hm => by
  obtain ⟨n, hn, rfl⟩ := List.mem_map.mp hm
  have := h n hn
  omega
theorem code_lx : ∀ {S T : List Nat}, S.length = T.length → (∀ x ∈ S, x < 100) → (∀ x ∈ T, x < 100) → lx S T = true → TS.code 100 (ci S) < TS.code 100 (ci T)
  | [], [], _, _, _, h => by simp [lx] at h
  | [], _ :: _, hl, _, _, _ => by simp at hl
  | _ :: _, [], hl, _, _, _ => by simp at hl
  | x :: S, y :: T, hl, hS, hT, h => by
    have hl' : S.length = T.length := by simpa using hl
    have h1 : ∀ z ∈ S, z < 100 := fun z hz => hS z (List.mem_cons_of_mem _ hz)
    have h2 : ∀ z ∈ T, z < 100 := fun z hz => hT z (List.mem_cons_of_mem _ hz)
    have hl2 : (ci S).length = (ci T).length := by
      unfold ci
      rw [List.length_map, List.length_map, hl']
    simp only [lx, Bool.or_eq_true, decide_eq_true_eq, Bool.and_eq_true, beq_iff_eq] at h
    show TS.code 100 ((x : Int) :: ci S) < TS.code 100 ((y : Int) :: ci T)
    rcases h with h | ⟨rfl, h⟩
    · exact TS.code_lt hl2 (ci_bd h1) (ci_bd h2) (by omega)
    · exact (TS.code_same hl2).mpr (code_lx hl' h1 h2 h)
theorem tupI_of {K : PySem.W.Frag} {H : Hp} {v : V} {S : List Nat} (h : Tp H v S) : TupI K H v (ci S) := let ⟨a, h1, h2⟩ := h; ⟨a, h1, SqT.of h2⟩
theorem lsort_eq {l m : List (List Nat)} (h : m.Perm l) (hs : Lxs m) : m = lsort l := lxs_unique (h.trans (lsort_perm l).symm) hs (lsort_lxs l)
/-- a list that is arranged anew, with what its items are -/
theorem paired_perm {α β : Type} {F : α → β → Prop} {ys xs : List α} (h : ys.Perm xs) : ∀ {Ss : List β}, Paired F xs Ss → ∃ Ts, Ts.Perm Ss ∧ Paired F ys Ts := by
  induction h with
  | nil => intro Ss p; exact ⟨Ss, .refl _, p⟩
  | cons x _ ih =>
    intro Ss p
    cases p with
    | cons f r =>
      obtain ⟨Ts, h1, h2⟩ := ih r
      exact ⟨_, h1.cons _, .cons f h2⟩
  | swap x y l =>
    intro Ss p
    cases p with
    | cons f r =>
      cases r with
      | cons g r => exact ⟨_, List.Perm.swap _ _ _, .cons g (.cons f r)⟩
  | trans _ _ h1 h2 =>
    intro Ss p
    obtain ⟨Ts, a, b⟩ := h2 p
    obtain ⟨Us, c, d⟩ := h1 b
    exact ⟨Us, c.trans a, d⟩
theorem pw_of {α β : Type} {F : α → β → Prop} {G : β → β → Prop} {R : α → α → Prop} (hR : ∀ x y s t, F x s → F y t → R x y → G s t) : ∀ {ys : List α} {Ts : List β}, Paired F ys Ts → ys.Pairwise R → Ts.Pairwise G
  | _, _, .nil, _ => List.Pairwise.nil
  | _, _, .cons f r, h => by
    have h' := List.pairwise_cons.mp h
    refine List.pairwise_cons.mpr ⟨fun t ht => ?_, pw_of hR r h'.2⟩
    obtain ⟨i, hi, rfl⟩ := List.getElem_of_mem ht
    obtain ⟨a, ha, fa⟩ := Paired.getR r (List.getElem?_eq_getElem hi)
    exact hR _ _ _ _ f fa (h'.1 a (List.mem_of_getElem? ha))
/-- sorted of a list of sets of one size -/
def rSortS (K : PySem.W.Frag) : List V → Hp → VK → Prop := fun vs H Q => ∃ (a : Addr) (xs : List V) (Ss : List (List Nat)) (k : Nat), vs = [V.ref a] ∧ SqL K H a xs ∧ Tps H xs Ss ∧ Ss.Nodup ∧ Ss.length < 64 ∧ (∀ S ∈ Ss, S.length = k ∧ ∀ x ∈ S, x < 100) ∧
  ∀ (ys : List V) (p : Addr), Tps H ys (lsort Ss) → H p = none → Q (.ref p) (upd H p (.lst ys))
theorem cr_sortS {X : Cx} : CallR X (.builtin "sorted") (rSortS X.K) := by
  intro pins s σ H vs us Q I r h
  obtain ⟨a, xs, Ss, k, ev, hs, hp, nd, hlen, hS, q⟩ := h
  have hl : xs.length = Ss.length := Paired.length hp
  by_cases hk : k = 0
  · have h1 : Ss.length ≤ 1 := by
      refine Nat.le_trans (count_le_of_nodup_subset Ss [[]] nd fun S hS' => ?_) (by decide)
      have := (hS S hS').1
      rw [hk] at this
      rw [List.eq_nil_of_length_eq_zero this]
      exact List.mem_singleton_self _
    have e : lsort Ss = Ss := by
      match Ss, h1 with
      | [], _ => rfl
      | [x], _ => rfl
      | x :: y :: l, h1 =>
        rw [List.length_cons, List.length_cons] at h1
        omega
    refine cr_sort1 pins s σ H vs us Q I r ⟨a, xs, ev, hs, by omega, fun p np => q xs p ?_ np⟩
    rw [e]
    exact hp
  · refine cr_sortT (d := k) (B := 100) (by omega) pins s σ H vs us Q I r ⟨a, xs, ev, hs, by omega, fun x hx => ?_, fun ys p hperm hpw np => ?_⟩
    · obtain ⟨i, hi, rfl⟩ := List.getElem_of_mem hx
      obtain ⟨S, hSi, hT⟩ := Paired.getL hp (List.getElem?_eq_getElem hi)
      have hm := List.mem_of_getElem? hSi
      refine ⟨ci S, tupI_of hT, ?_, ci_bd (hS S hm).2⟩
      unfold ci
      rw [List.length_map]
      exact (hS S hm).1
    · obtain ⟨Ts, h1, h2⟩ := paired_perm hperm hp
      have hpair : Paired (fun x T => Tp H x T ∧ T ∈ Ss) ys Ts := by
        have : ∀ {ys : List V} {Ts : List (List Nat)}, Paired (Tp H) ys Ts → (∀ T ∈ Ts, T ∈ Ss) → Paired (fun x T => Tp H x T ∧ T ∈ Ss) ys Ts := by
          intro ys Ts p
          induction p with
          | nil => intro _; exact .nil
          | cons f _ ih => intro hm; exact .cons ⟨f, hm _ List.mem_cons_self⟩ (ih fun T hT => hm T (List.mem_cons_of_mem _ hT))
        exact this h2 fun T hT => h1.mem_iff.mp hT
      have hx : Lxs Ts := pw_of (fun x y S T hx hy hc => by
        cases e : lx T S with
        | false => rfl
        | true =>
          have a1 := hS S hx.2
          have a2 := hS T hy.2
          have := code_lx (by rw [a1.1, a2.1]) a2.2 a1.2 e
          have := hc _ _ (tupI_of hx.1) (tupI_of hy.1)
          omega) hpair hpw
      rw [lsort_eq h1 hx] at h2
      exact q ys p h2 np
end KW
end
section
namespace KW
open PySem PySem.Spec PyProof.Rows L2 KM
section
variable {P : Program} {w : World} {K : PySem.W.Frag} {mg : Str → Option Value} {base : Heap}
def spIsInt : Sp := fun vs H Q _ => ∃ n : Int, vs = [.int n] ∧ Q (.bl true) H
theorem ok_is_int (Z : Defs K mg) : FnOk P w K mg base CX0 1 Z.is_int.f Z.is_int.fd ["value"] spIsInt := by
  refine Z.is_int.F.ok sc_is_int (fun vs H Q E h => ?_) (fun cdv A outer s H vs Q E hr h => ?_)
  · obtain ⟨n, rfl, _⟩ := h
    rfl
  · obtain ⟨n, rfl, q⟩ := h
    refine ⟨_, pss_one (ps_ret (pe_and (pe_callB call_isi (by rfl) Z.bare.isi boot_isinstance (pa_cons (pv 0) (pa_cons (pe_bltn (v := .ty "int") (by rfl) Z.bare.int boot_int rfl) pa_nil)))
      (pe_one (pe_not (pe_callB call_isi (by rfl) Z.bare.isi boot_isinstance (pa_cons (pv 0) (pa_cons (pe_bltn (v := .ty "bool") (by rfl) Z.bare.bool boot_bool rfl) pa_nil))))))), ?_⟩
    refine ⟨.int n, rfl, .int n, .ty "int", .type "int", .type "int", true, rfl, .ty _, .base (.int n), kit_ty (by decide +kernel), true, rfl, iteT ?_⟩
    refine ⟨.int n, rfl, .int n, .ty "bool", .type "int", .type "bool", false, rfl, .ty _, .base (.int n), kit_ty (by decide +kernel), false, rfl, q⟩
def spIsIn : Sp := fun vs H Q _ => ∃ n a b : Int, vs = [.int n, .int a, .int b] ∧ Q (.bl (decide (a ≤ n) && decide (n ≤ b))) H
theorem ok_is_in (Z : Defs K mg) : FnOk P w K mg base CX0 2 Z.is_in.f Z.is_in.fd ["value", "least", "most"] spIsIn := by
  have G1 : FnOk P w K mg base CX0 1 Z.is_int.f Z.is_int.fd ["value"] spIsInt := ok_is_int Z
  refine Z.is_in.F.ok sc_is_in (fun vs H Q E h => ?_) (fun cdv A outer s H vs Q E hr h => ?_)
  · obtain ⟨n, a, b, rfl, _⟩ := h
    rfl
  · obtain ⟨n, a, b, rfl, q⟩ := h
    refine ⟨_, pss_one (ps_ret (pe_and (pe_call G1 hr (by rfl) Z.is_int.g Z.is_int.F.kp Z.is_int.b .nil pass0 (pa_cons (pv 0) pa_nil)) (pe_one (pe_chain op_le op_le (pv 1) (pv 0) (pv 2))))), ?_⟩
    refine ⟨.int n, rfl, n, rfl, true, rfl, iteT ?_⟩
    refine ⟨.int a, rfl, .int n, rfl, a, n, rfl, rfl, decide (a ≤ n), rfl, ?_⟩
    by_cases e : a ≤ n
    · rw [decide_eq_true e] at q ⊢
      rw [if_pos rfl]
      exact ⟨.int b, rfl, n, b, rfl, rfl, by rwa [Bool.true_and] at q⟩
    · rw [decide_eq_false e] at q ⊢
      rw [if_neg Bool.false_ne_true]
      rwa [Bool.false_and] at q
end
end KW
end
section
namespace KW
open PySem PySem.Spec PyProof.Rows L2 KM
theorem ixNat {n j : Nat} (h : j < n) : ixN n (j : Int) = some j := by
  have h1 : (j : Int) < (n : Int) := by omega
  simp [ixN, h1]
/-- which points the first i images have met -/
def flags (n : Nat) (q : List Nat) : List V := (List.range n).map fun x => V.bl (q.contains x)
theorem flags_len (n : Nat) (q : List Nat) : (flags n q).length = n := by
  unfold flags
  rw [List.length_map, List.length_range]
theorem flags_get {n x : Nat} (q : List Nat) (h : x < n) : (flags n q)[x]? = some (.bl (q.contains x)) := by
  unfold flags
  rw [List.getElem?_map, List.getElem?_range h]
  rfl
theorem flags_nil (n : Nat) : (List.replicate n [V.bl false]).flatten = flags n [] := by
  unfold flags
  refine List.ext_getElem? fun i => ?_
  have e : (List.replicate n [V.bl false]).flatten = List.replicate n (V.bl false) := by
    induction n with
    | zero => rfl
    | succ n ih => rw [List.replicate_succ, List.flatten_cons, ih, List.replicate_succ]; rfl
  rw [e, List.getElem?_map, List.getElem?_replicate]
  by_cases h : i < n
  · rw [if_pos h, List.getElem?_range h]
    rfl
  · rw [if_neg h, List.getElem?_eq_none (by rw [List.length_range]; omega)]
    rfl
theorem flags_set {n x : Nat} (q : List Nat) (h : x < n) : (flags n q).set x (.bl true) = flags n (q ++ [x]) := by
  refine List.ext_getElem (by rw [List.length_set, flags_len, flags_len]) fun i h1 h2 => ?_
  rw [flags_len] at h2
  rw [List.getElem_set]
  have e1 : ∀ (r : List Nat) (hh : i < (flags n r).length), (flags n r)[i] = .bl (r.contains i) := fun r hh => by
    have := flags_get r h2
    rw [List.getElem?_eq_getElem hh] at this
    exact Option.some.inj this
  by_cases e : x = i
  · rw [if_pos e, e1 _ (by rw [flags_len]; exact h2)]
    simp [e]
  · rw [if_neg e, e1 _ (by rw [flags_len]; exact h2), e1 _ (by rw [flags_len]; exact h2)]
    have : (q ++ [x]).contains i = q.contains i := by
      rw [Bool.eq_iff_iff]
      simp
      intro z
      exact absurd z.symm e
    rw [this]
section
variable {P : Program} {w : World} {K : PySem.W.Frag} {mg : Str → Option Value} {base : Heap}
def spIsPerm : Sp := fun vs H Q _ => ∃ (n : Nat) (p : List Nat) (v : V), vs = [.int (n : Int), v] ∧ Tp H v p ∧ IsPerm n p ∧ n ≤ 12 ∧ ∀ H', Same H H' → Q (.bl true) H'
theorem ok_is_perm (Z : Defs K mg) : FnOk P w K mg base CX0 3 Z.is_perm.f Z.is_perm.fd ["degree", "value"] spIsPerm := by
  have G2 : FnOk P w K mg base CX0 2 Z.is_in.f Z.is_in.fd ["value", "least", "most"] spIsIn := ok_is_in Z
  refine Z.is_perm.F.ok sc_is_perm (fun vs H Q E h => ?_) (fun cdv A outer s H vs Q E hr h => ?_)
  · obtain ⟨n, p, a, rfl, _⟩ := h
    rfl
  · obtain ⟨n, p, v, rfl, ⟨a, rfl, ht⟩, hp, hn, q⟩ := h
    have nd := sc_is_perm.nd
    refine ⟨_, pss_cons (ps_if (PW.pt (pw_or (pt_not (pt_val (pe_callB call_isi (by rfl) Z.bare.isi boot_isinstance (pa_cons (pv 1) (pa_cons (pe_bltn (v := .ty "tuple") (by rfl) Z.bare.tuple boot_tuple rfl) pa_nil)))))
          (pw_or1 (pt_cmpR op_ne (pe_callB call_len_seq (by rfl) Z.bare.len PySem.boot_len (pa_cons (pv 1) pa_nil)) (pv 0) (nomark _))))) pss_never pss_nil)
      (pss_cons (ps_set (i := 2) nd rfl (.inl rfl) (pe_op op_rep (pe_lst (pa_cons pe_bl pa_nil)) (pv 0)))
      (pss_cons (ps_for PassesOwn.never rfl (pi_tup (pv 1)) (pg_name (i := 3) nd rfl (.inl rfl))
        (pss_cons (ps_if (PW.pt (pw_or (pt_not (pt_val (pe_call G2 hr (by rfl) Z.is_in.g Z.is_in.F.kp Z.is_in.b .nil pass0 (pa_cons (pv 3) (pa_cons pe_int (pa_cons (pe_op op_sub (pv 0) pe_int) pa_nil))))))
            (pw_or1 (pt_val (pe_ix ix_list (pv 2) (pv 3) (fun _ _ => rfl)))))) pss_never pss_nil)
          (pss_one (ps_asg pe_bl (pg_sub (pv 2) (pv 3) set_list)))))
      (pss_one (ps_ret pe_bl)))), ?_⟩
    have hT : SqT K H a (iv p) := SqT.of ht
    refine ⟨.ref a, rfl, .ref a, .ty "tuple", .type "tuple", .type "tuple", true, rfl, .ty _, .base (.tup ht), kit_ty (by decide +kernel), true, rfl, iteF ?_⟩
    refine ⟨.ref a, rfl, a, iv p, rfl, .inr hT, .int (n : Int), rfl, rfl, false, ?_, iteF ?_⟩
    · rw [iv_len, hp.len]
      simp
    -- seen = [False] * degree
    refine ⟨small_size (by decide), fun l0 n0 => ⟨.int (n : Int), rfl, l0, (n : Int), _, rfl, rfl, upd_same, by omega, by omega, ?_, fun l nl => ?_⟩⟩
    · rw [Int.toNat_natCast]
      exact small_size (by show 1 * n ≤ 100000; omega)
    rw [Int.toNat_natCast, flags_nil]
    have s1 : Same H (upd H l0 (.lst [.bl false])) := same_new n0
    have hHl : H l = none := s1.free nl
    refine ⟨.ref a, rfl, a, rfl, ⟨_, SqT.of (s1.trans (same_new nl) _ _ ht)⟩, for_tup (xs := iv p) (fun i σ H3 => ∃ y, σ = [some (.int (n : Int)), some (.ref a), some (.ref l), y] ∧ Same H H3 ∧ H3 l = some (.lst (flags n (p.take i)))) ?_ ?_ ?_ ?_⟩
    · exact ⟨none, rfl, s1.trans (same_new nl), upd_same⟩
    · intro i σ H3 _ hW
      obtain ⟨y, _, sm, _⟩ := hW
      exact SqT.of (sm _ _ ht)
    · intro i x σ H3 hx hW
      obtain ⟨y, rfl, sm, hl⟩ := hW
      obtain ⟨m, hm, rfl⟩ := iv_get_inv hx
      have hi : i < p.length := (List.getElem?_eq_some_iff.mp hm).1
      have hmp : m ∈ p := List.mem_of_getElem? hm
      have hmn := hp.bd m hmp
      refine ⟨.int (m : Int), rfl, .int (n : Int), rfl, n, 1, rfl, rfl, (m : Int), 0, (n : Int) - 1, rfl, ?_⟩
      rw [decide_eq_true (show (0 : Int) ≤ m by omega), decide_eq_true (show (m : Int) ≤ (n : Int) - 1 by omega)]
      refine ⟨true, rfl, iteF ?_⟩
      have hnot : (p.take i).contains m = false := by
        rw [← Bool.not_eq_true]
        intro hc
        have hc : m ∈ p.take i := by simpa using hc
        obtain ⟨j, hj, ej⟩ := List.getElem_of_mem hc
        rw [List.length_take] at hj
        rw [List.getElem_take] at ej
        have em := (List.getElem?_eq_some_iff.mp hm).2
        have := KM.nodup_inj hp.nd (show j < p.length by omega) hi (ej.trans em.symm)
        omega
      have hg := flags_get (p.take i) hmn
      rw [hnot] at hg
      refine ⟨.ref l, rfl, .int (m : Int), rfl, l, _, (m : Int), .bl false, rfl, rfl, SqL.of hl, atI_nat hg, false, rfl, iteF ?_⟩
      refine ⟨.ref l, rfl, .int (m : Int), rfl, l, _, (m : Int), m, rfl, rfl, hl, ?_, ?_⟩
      · rw [flags_len]
        exact ixNat hmn
      · refine ⟨some (.int (m : Int)), rfl, same_put sm hHl, ?_⟩
        rw [upd_same, flags_set _ hmn, List.take_add_one, hm]
        rfl
    · intro σ H3 hW
      obtain ⟨y, rfl, sm, _⟩ := hW
      exact q H3 sm
end
end KW
end
section
namespace KW
open PySem PySem.Spec PyProof.Rows L2 KM
section
variable {P : Program} {w : World} {K : PySem.W.Frag} {mg : Str → Option Value} {base : Heap}
def spNeed : Sp := fun vs H Q _ => ∃ (v : V) (n : Nat) (gens : List (List Nat)), vs = [v] ∧ Grp H v n gens ∧ 1 ≤ n ∧ n ≤ 12 ∧ gens.length ≤ 12 ∧ Gens n gens ∧ ∀ H', Same H H' → Q .non H'
theorem ok_need_group (Z : Defs K mg) : FnOk P w K mg base CX0 4 Z.need_group.f Z.need_group.fd ["group"] spNeed := by
  have G_is_in := ok_is_in (P := P) (w := w) (base := base) Z
  have G_is_perm := ok_is_perm (P := P) (w := w) (base := base) Z
  obtain ⟨t1, m1⟩ := Z.consts.md
  obtain ⟨t2, m2⟩ := Z.consts.mg
  refine Z.need_group.F.ok sc_need_group (fun vs H Q E h => ?_) (fun cdv A outer s H vs Q E hr h => ?_)
  · obtain ⟨v, n, gens, rfl, _⟩ := h
    rfl
  · obtain ⟨v, n, gens, rfl, ⟨a, g, rfl, ha, b, vs, rfl, hb, hp⟩, n1, n2, g1, g2, q⟩ := h
    have nd := sc_need_group.nd
    refine ⟨_, (pss_cons (ps_if (PW.pt (pw_or (pt_not (pt_val (pe_callB call_isi (by rfl) Z.bare.isi boot_isinstance (pa_cons (pv 0) (pa_cons (pe_bltn (v := .ty "tuple") (by rfl) Z.bare.tuple boot_tuple rfl) pa_nil))))) (pw_or (pt_cmpR op_ne (pe_callB call_len_seq (by rfl) Z.bare.len PySem.boot_len (pa_cons (pv 0) pa_nil)) pe_int (nomark _)) (pw_or1 (pt_not (pt_val (pe_call G_is_in (hr.mono (by decide)) (by rfl) Z.is_in.g Z.is_in.F.kp Z.is_in.b .nil pass0 (pa_cons (pe_ix ix_tup (pv 0) pe_int (fun _ _ => rfl)) (pa_cons pe_int (pa_cons (pe_glob (v := .int 12) (by rfl) m1 ⟨_, rfl⟩) pa_nil))))))))))
        pss_never pss_nil)
      (pss_cons (ps_if (PW.pt (pw_or (pt_not (pt_val (pe_callB call_isi (by rfl) Z.bare.isi boot_isinstance (pa_cons (pe_ix ix_tup (pv 0) pe_int (fun _ _ => rfl)) (pa_cons (pe_bltn (v := .ty "tuple") (by rfl) Z.bare.tuple boot_tuple rfl) pa_nil))))) (pw_or1 (pt_cmpR op_gt (pe_callB call_len_seq (by rfl) Z.bare.len PySem.boot_len (pa_cons (pe_ix ix_tup (pv 0) pe_int (fun _ _ => rfl)) pa_nil)) (pe_glob (v := .int 12) (by rfl) m2 ⟨_, rfl⟩) (nomark _)))))
        pss_never pss_nil)
      (pss_one (ps_for PassesOwn.never rfl (pi_enumT (by rfl) Z.bare.enum (pa_cons (pe_ix ix_tup (pv 0) pe_int (fun _ _ => rfl)) pa_nil)) (pg_tup rfl (pgs_cons (pg_name (i := 1) nd rfl (.inl rfl)) (pgs_cons (pg_name (i := 2) nd rfl (.inl rfl)) pgs_nil)))
        (pss_one (ps_if (pt_not (pt_val (pe_call G_is_perm (hr.mono (by decide)) (by rfl) Z.is_perm.g Z.is_perm.F.kp Z.is_perm.b .nil pass0 (pa_cons (pe_ix ix_tup (pv 0) pe_int (fun _ _ => rfl)) (pa_cons (pv 2) pa_nil)))))
          pss_never pss_nil)))))), ?_⟩
    have hA : SqT K H a [.int (n : Int), .ref b] := SqT.of ha
    have hB : SqT K H b vs := SqT.of hb
    have hlen : vs.length = gens.length := Paired.length hp
    refine ⟨.ref a, rfl, .ref a, .ty "tuple", .type "tuple", .type "tuple", true, rfl, .ty _, .base (.tup ha), kit_ty (by decide +kernel), true, rfl, iteF ?_⟩
    refine ⟨.ref a, rfl, a, _, rfl, .inr hA, rfl, false, rfl, iteF ?_⟩
    refine ⟨.ref a, rfl, a, _, 0, .int (n : Int), rfl, rfl, hA, rfl, (n : Int), 1, 12, rfl, ?_⟩
    rw [decide_eq_true (show (1 : Int) ≤ n by omega), decide_eq_true (show (n : Int) ≤ 12 by omega)]
    refine ⟨true, rfl, iteF ?_⟩
    refine ⟨.ref a, rfl, a, _, 1, .ref b, rfl, rfl, hA, rfl, .ref b, .ty "tuple", .type "tuple", .type "tuple", true, rfl, .ty _, .base (.tup hb), kit_ty (by decide +kernel), true, rfl, iteF ?_⟩
    refine ⟨.ref a, rfl, a, _, 1, .ref b, rfl, rfl, hA, rfl, b, vs, rfl, .inr hB, _, 12, rfl, rfl, _, rfl, ?_⟩
    rw [decide_eq_false (show ¬ (12 : Int) < (vs.length : Nat) by omega)]
    refine iteF ?_
    refine ⟨.ref a, rfl, a, _, 1, .ref b, rfl, rfl, hA, rfl, b, vs, rfl, hB, for_it (walk_enumT (xs := vs)) (fun i σ H3 => ∃ y1 y2, σ = [some (.ref a), y1, y2] ∧ Same H H3) ⟨none, none, rfl, Same.refl H⟩ ?_ ?_ ?_⟩
    · intro i σ H3 _ hW
      obtain ⟨_, _, _, sm⟩ := hW
      exact SqT.of (sm _ _ hb)
    · intro i x σ H3 H4 hi hW hY
      obtain ⟨y1, y2, rfl, sm⟩ := hW
      obtain ⟨T, x1, x2, rfl, nT, rfl, e1, e2⟩ := hY
      cases e1
      obtain ⟨p, hpp, t, et, ht⟩ := Paired.getL hp e2
      subst et
      have smT : Same H (upd H3 T (.tup [.int (i : Nat), .ref t])) := sm.trans (same_new nT)
      refine ⟨T, _, rfl, SqT.of upd_same, rfl, .int (i : Nat), _, rfl, .ref t, [], rfl, rfl, ?_⟩
      refine ⟨.ref a, rfl, a, _, 0, .int (n : Int), rfl, rfl, SqT.of (smT _ _ ha), rfl, .ref t, rfl, n, p, .ref t, rfl, ⟨t, rfl, smT _ _ ht⟩, g2 p (List.mem_of_getElem? hpp), n2, fun H5 s5 => ?_⟩
      exact ⟨true, rfl, iteF ⟨_, _, rfl, smT.trans s5⟩⟩
    · intro σ H3 hW
      obtain ⟨_, _, _, sm⟩ := hW
      exact q H3 sm
end
end KW
end
section
namespace KW
open PySem PySem.Spec PyProof.Rows L2 KM
theorem toNat_cast {ns : List Int} {L : List Nat} (h : ns.Perm (L.map fun n : Nat => (n : Int))) : (ns.map Int.toNat).Perm L ∧ (ns.map Int.toNat).map (fun n : Nat => (n : Int)) = ns := by
  constructor
  · have := h.map Int.toNat
    rw [List.map_map] at this
    have e : (L.map (Int.toNat ∘ fun n : Nat => (n : Int))) = L := by
      have : (Int.toNat ∘ fun n : Nat => (n : Int)) = id := funext fun n => Int.toNat_natCast n
      rw [this, List.map_id]
    rwa [e] at this
  · rw [List.map_map]
    have : ns.map ((fun n : Nat => (n : Int)) ∘ Int.toNat) = ns.map id := List.map_congr_left fun x hx => by
      obtain ⟨n, _, rfl⟩ := List.mem_map.mp (h.mem_iff.mp hx)
      show ((Int.toNat (n : Int) : Nat) : Int) = n
      rw [Int.toNat_natCast]
    rw [this, List.map_id]
theorem sort_cast {ns : List Int} {L : List Nat} (h : ns.Perm (L.map fun n : Nat => (n : Int))) (hs : ns.Pairwise (· ≤ ·)) : ns = (isort L).map fun n : Nat => (n : Int) := by
  obtain ⟨h1, h2⟩ := toNat_cast h
  have e : ns.map Int.toNat = isort L := by
    refine asc_unique (h1.trans (isort_perm L).symm) ?_ (isort_asc L)
    exact List.pairwise_map.mpr (hs.imp fun {a b} hab => by omega)
  rw [← e, h2]
section
variable {P : Program} {w : World} {K : PySem.W.Frag} {mg : Str → Option Value} {base : Heap}
def spImage : Sp := fun vs H Q _ => ∃ (S p : List Nat) (v u : V), vs = [v, u] ∧ Tp H v S ∧ Tp H u p ∧ (∀ x ∈ S, x < p.length) ∧ S.length ≤ 12 ∧ ∀ H' z, Same H H' → Tp H' z (img p S) → Q z H'
theorem ok_image_of (Z : Defs K mg) : FnOk P w K mg base CX0 1 Z.image_of.f Z.image_of.fd ["points", "p"] spImage := by
  refine Z.image_of.F.ok sc_image_of (fun vs H Q E h => ?_) (fun cdv A outer s H vs Q E hr h => ?_)
  · obtain ⟨S, p, v, u, rfl, _⟩ := h
    rfl
  · obtain ⟨S, p, v, u, rfl, ⟨a, rfl, ha⟩, ⟨b, rfl, hb⟩, hS, hl, q⟩ := h
    have nd := sc_image_of.nd
    refine ⟨_, (pss_one (ps_ret (pe_callTy call_tuple_of (by rfl) Z.bare.tuple boot_tuple (pa_cons (pe_callB cr_sorted (by rfl) Z.bare.sorted boot_sorted (pa_cons (pe_lc (own := [("x", 2)]) (g := gName 2) rfl nd (pi_tup (pv 0)) (blkOk_by (N := N_image_of) (sc := defScope s_image_of) (by decide +kernel)) (fun _ _ _ _ _ => pg_name (i := 2) nd rfl (Or.inl rfl)) (fun _ _ _ _ _ => pts_nil) (fun _ _ _ _ _ => (pe_ix (ixT (K := K)) (pv 1) (pv 2) (fun _ _ => rfl)))) pa_nil)) pa_nil)))), ?_⟩
    refine ⟨.ref a, rfl, a, rfl, ⟨_, SqT.of ha⟩, fun D nD => lc_tup (xs := iv S) (fun i H3 => Same H H3 ∧ H3 D = some (.lst (iv ((S.take i).map (app p))))) ⟨same_new nD, upd_same⟩ (fun i H3 _ hP => SqT.of (hP.1 _ _ ha)) (fun i x H3 hx hP => ?_) (fun H3 hP => ?_)⟩
    · obtain ⟨m, hm, rfl⟩ := iv_get_inv hx
      have hi : i < S.length := (List.getElem?_eq_some_iff.mp hm).1
      have hmp := hS m (List.mem_of_getElem? hm)
      refine ⟨rfl, .ref b, rfl, .int (m : Int), rfl, b, _, (m : Int), .int (app p m : Int), rfl, rfl, SqT.of (hP.1 _ _ hb), atI_nat (iv_app hmp), _, hP.2, ?_, same_put hP.1 nD, ?_⟩
      · rw [iv_len, List.length_map, List.length_take]
        exact small_lt (by omega)
      · rw [upd_same, List.take_add_one, hm, List.map_append, iv_append]
        rfl
    · obtain ⟨sm, hD⟩ := hP
      rw [iv_len, List.take_length] at hD
      refine ⟨D, (S.map (app p)).map fun n : Nat => (n : Int), rfl, SqL.of hD, ?_, fun ns' l hp hs nl => ?_⟩
      · rw [List.length_map, List.length_map]
        omega
      · rw [sort_cast hp hs]
        refine ⟨l, _, rfl, .inl ⟨SqL.of upd_same, fun r nr => ?_⟩⟩
        exact q _ _ ((sm.trans (same_new nl)).trans (same_new nr)) ⟨r, rfl, upd_same⟩
theorem ok_z_image (Z : Defs K mg) : FnOk P w K mg base CX0 1 Z.z_image.f Z.z_image.fd ["_law_points", "_law_p"] spImage := by
  refine Z.z_image.F.ok sc_z_image (fun vs H Q E h => ?_) (fun cdv A outer s H vs Q E hr h => ?_)
  · obtain ⟨S, p, v, u, rfl, _⟩ := h
    rfl
  · obtain ⟨S, p, v, u, rfl, ⟨a, rfl, ha⟩, ⟨b, rfl, hb⟩, hS, hl, q⟩ := h
    have nd := sc_z_image.nd
    refine ⟨_, (pss_one (ps_ret (pe_callTy call_tuple_of (by rfl) Z.bare.tuple boot_tuple (pa_cons (pe_callB cr_sorted (by rfl) Z.bare.sorted boot_sorted (pa_cons (pe_lc (own := [("_law_x", 2)]) (g := gName 2) rfl nd (pi_tup (pv 0)) (blkOk_by (N := N_z_image) (sc := defScope s_z_image) (by decide +kernel)) (fun _ _ _ _ _ => pg_name (i := 2) nd rfl (Or.inl rfl)) (fun _ _ _ _ _ => pts_nil) (fun _ _ _ _ _ => (pe_ix (ixT (K := K)) (pv 1) (pv 2) (fun _ _ => rfl)))) pa_nil)) pa_nil)))), ?_⟩
    refine ⟨.ref a, rfl, a, rfl, ⟨_, SqT.of ha⟩, fun D nD => lc_tup (xs := iv S) (fun i H3 => Same H H3 ∧ H3 D = some (.lst (iv ((S.take i).map (app p))))) ⟨same_new nD, upd_same⟩ (fun i H3 _ hP => SqT.of (hP.1 _ _ ha)) (fun i x H3 hx hP => ?_) (fun H3 hP => ?_)⟩
    · obtain ⟨m, hm, rfl⟩ := iv_get_inv hx
      have hi : i < S.length := (List.getElem?_eq_some_iff.mp hm).1
      have hmp := hS m (List.mem_of_getElem? hm)
      refine ⟨rfl, .ref b, rfl, .int (m : Int), rfl, b, _, (m : Int), .int (app p m : Int), rfl, rfl, SqT.of (hP.1 _ _ hb), atI_nat (iv_app hmp), _, hP.2, ?_, same_put hP.1 nD, ?_⟩
      · rw [iv_len, List.length_map, List.length_take]
        exact small_lt (by omega)
      · rw [upd_same, List.take_add_one, hm, List.map_append, iv_append]
        rfl
    · obtain ⟨sm, hD⟩ := hP
      rw [iv_len, List.take_length] at hD
      refine ⟨D, (S.map (app p)).map fun n : Nat => (n : Int), rfl, SqL.of hD, ?_, fun ns' l hp hs nl => ?_⟩
      · rw [List.length_map, List.length_map]
        omega
      · rw [sort_cast hp hs]
        refine ⟨l, _, rfl, .inl ⟨SqL.of upd_same, fun r nr => ?_⟩⟩
        exact q _ _ ((sm.trans (same_new nl)).trans (same_new nr)) ⟨r, rfl, upd_same⟩
def spMul : Sp := fun vs H Q _ => ∃ (p r : List Nat) (v u : V), vs = [v, u] ∧ Tp H v p ∧ Tp H u r ∧ (∀ x ∈ p, x < r.length) ∧ p.length ≤ 12 ∧ ∀ H' z, Same H H' → Tp H' z (mul p r) → Q z H'
theorem ok_z_mul (Z : Defs K mg) : FnOk P w K mg base CX0 1 Z.z_mul.f Z.z_mul.fd ["_law_p", "_law_q"] spMul := by
  refine Z.z_mul.F.ok sc_z_mul (fun vs H Q E h => ?_) (fun cdv A outer s H vs Q E hr h => ?_)
  · obtain ⟨S, p, v, u, rfl, _⟩ := h
    rfl
  · obtain ⟨S, p, v, u, rfl, ⟨a, rfl, ha⟩, ⟨b, rfl, hb⟩, hS, hl, q⟩ := h
    have nd := sc_z_mul.nd
    refine ⟨_, (pss_one (ps_ret (pe_callTy call_tuple_of (by rfl) Z.bare.tuple boot_tuple (pa_cons (pe_lc (own := [("_law_image_here", 2)]) (g := gName 2) rfl nd (pi_tup (pv 0)) (blkOk_by (N := N_z_mul) (sc := defScope s_z_mul) (by decide +kernel)) (fun _ _ _ _ _ => pg_name (i := 2) nd rfl (Or.inl rfl)) (fun _ _ _ _ _ => pts_nil) (fun _ _ _ _ _ => (pe_ix (ixT (K := K)) (pv 1) (pv 2) (fun _ _ => rfl)))) pa_nil)))), ?_⟩
    refine ⟨.ref a, rfl, a, rfl, ⟨_, SqT.of ha⟩, fun D nD => lc_tup (xs := iv S) (fun i H3 => Same H H3 ∧ H3 D = some (.lst (iv ((S.take i).map (app p))))) ⟨same_new nD, upd_same⟩ (fun i H3 _ hP => SqT.of (hP.1 _ _ ha)) (fun i x H3 hx hP => ?_) (fun H3 hP => ?_)⟩
    · obtain ⟨m, hm, rfl⟩ := iv_get_inv hx
      have hi : i < S.length := (List.getElem?_eq_some_iff.mp hm).1
      have hmp := hS m (List.mem_of_getElem? hm)
      refine ⟨rfl, .ref b, rfl, .int (m : Int), rfl, b, _, (m : Int), .int (app p m : Int), rfl, rfl, SqT.of (hP.1 _ _ hb), atI_nat (iv_app hmp), _, hP.2, ?_, same_put hP.1 nD, ?_⟩
      · rw [iv_len, List.length_map, List.length_take]
        exact small_lt (by omega)
      · rw [upd_same, List.take_add_one, hm, List.map_append, iv_append]
        rfl
    · obtain ⟨sm, hD⟩ := hP
      rw [iv_len, List.take_length] at hD
      refine ⟨D, _, rfl, .inl ⟨SqL.of hD, fun r nr => ?_⟩⟩
      exact q _ _ (sm.trans (same_new nr)) ⟨r, rfl, upd_same⟩
end
end KW
end
section
namespace KW
open PySem PySem.Spec PyProof.Rows L2 KM
/-! ### few sets -/
theorem subs_len {n : Nat} (h : n ≤ 7) : (subs n).length ≤ 128 := by
  have : n = 0 ∨ n = 1 ∨ n = 2 ∨ n = 3 ∨ n = 4 ∨ n = 5 ∨ n = 6 ∨ n = 7 := by omega
  rcases this with rfl | rfl | rfl | rfl | rfl | rfl | rfl | rfl <;> decide +kernel
theorem few_sets {n k : Nat} {F : List (List Nat)} (hn : n ≤ 7) (nd : F.Nodup) (h : ∀ S ∈ F, IsSet n k S) : F.length ≤ 128 :=
  Nat.le_trans (count_le_of_nodup_subset F (subs n) nd fun S hS => mem_subs.mpr ⟨(h S hS).asc, (h S hS).bd⟩) (subs_len hn)
theorem isSet_len {n k : Nat} {S : List Nat} (hn : n ≤ 7) (h : IsSet n k S) : S.length ≤ 7 := by
  have := count_le_of_nodup_subset S (List.range n) h.nd fun x hx => List.mem_range.mpr (h.bd x hx)
  rw [List.length_range] at this
  omega
/-! ### dicts: what is in -/
theorem valV_isSome {kvs : List (List L2.Key × V)} {F : List (List Nat)} (e : kvs.map (·.1) = F.map kvS) (S : List Nat) : (valV kvs (kvS S)).isSome = decide (S ∈ F) := by
  rw [← valV_any, Bool.eq_iff_iff, decide_eq_true_iff, List.any_eq_true]
  constructor
  · rintro ⟨p, hp, h⟩
    have h1 := of_decide_eq_true h
    have : p.1 ∈ F.map kvS := by
      rw [← e]
      exact List.mem_map.mpr ⟨p, hp, rfl⟩
    obtain ⟨T, hT, h2⟩ := List.mem_map.mp this
    rw [← kvS_inj (h2.trans h1)]
    exact hT
  · intro h
    have : kvS S ∈ kvs.map (·.1) := by
      rw [e]
      exact List.mem_map.mpr ⟨S, h, rfl⟩
    obtain ⟨p, hp, h2⟩ := List.mem_map.mp this
    exact ⟨p, hp, decide_eq_true h2⟩
theorem valV_none {kvs : List (List L2.Key × V)} {F : List (List Nat)} (e : kvs.map (·.1) = F.map kvS) {S : List Nat} (h : S ∉ F) : valV kvs (kvS S) = none := by
  have := valV_isSome e S
  rw [decide_eq_false h] at this
  cases q : valV kvs (kvS S) with
  | none => rfl
  | some _ =>
    rw [q] at this
    cases this
section
variable {P : Program} {w : World} {K : PySem.W.Frag} {mg : Str → Option Value} {base : Heap}
def spWays : Sp := fun vs H Q _ => ∃ (gens : List (List Nat)) (S : List Nat) (n k : Nat) (v u : V), vs = [v, u] ∧ Tts H v gens ∧ Tp H u S ∧ IsSet n k S ∧ Gens n gens ∧ gens.length ≤ 12 ∧ n ≤ 7 ∧
  ∀ H' t l d F, Same H H' → H' t = some (.tup [.ref l, .ref d]) → Lts H' l F → SOrb gens S F → F.length ≤ 128 → Q (.ref t) H'
/-- between two turns of the while -/
structure WInv (H : Hp) (gens : List (List Nat)) (S : List Nat) (l d : Addr) (F : List (List Nat)) (vs : List V) (kvs : List (List L2.Key × V)) (H3 : Hp) : Prop where
  sm : Same H H3
  hl : H3 l = some (.lst vs)
  ps : Tps H3 vs F
  hd : H3 d = some (.dT kvs)
  ks : kvs.map (·.1) = F.map kvS
  nd : F.Nodup
  one : S ∈ F
  reach : ∀ T ∈ F, SReach gens S T
theorem ok_set_ways (Z : Defs K mg) : FnOk P w K mg base CX0 2 Z.set_ways.f Z.set_ways.fd ["gens", "points"] spWays := by
  have G_image_of := ok_image_of (P := P) (w := w) (base := base) Z
  refine Z.set_ways.F.ok sc_set_ways (fun vs H Q E h => ?_) (fun cdv A outer s H vs Q E hr h => ?_)
  · obtain ⟨gens, S, n, k, v, u, rfl, _⟩ := h
    rfl
  · obtain ⟨gens, S, n, k, v, u, rfl, ⟨ga, gvs, rfl, hga, hgp⟩, ⟨pa, rfl, hpa⟩, hS, hG, hgl, hn, q⟩ := h
    have nd := sc_set_ways.nd
    refine ⟨_, (pss_cons (ps_par3 (i := 2) (j := 3) (l := 4) rfl nd rfl rfl rfl (by decide) (by decide) (by decide) rfl rfl rfl (pa_cons (pe_lst (pa_cons (pv 1) pa_nil)) (pa_cons (pe_disp1 (hu_of hr) (pv 1) pe_non) (pa_cons pe_int pa_nil))) (by rfl))
      (pss_cons (ps_while PassesOwn.never (pt_cmpR op_lt (pv 4) (pe_callB call_len_seq (by rfl) Z.bare.len PySem.boot_len (pa_cons (pv 2) pa_nil)) (nomark _))
        (pss_cons (ps_for PassesOwn.never rfl (pi_range1 (by rfl) Z.bare.range (pa_cons (pe_callB call_len_seq (by rfl) Z.bare.len PySem.boot_len (pa_cons (pv 0) pa_nil)) pa_nil)) (pg_name (i := 5) nd rfl (.inl rfl))
          (pss_cons (ps_set (i := 6) nd rfl (.inl rfl) (pe_call G_image_of (hr.mono (by decide)) (by rfl) Z.image_of.g Z.image_of.F.kp Z.image_of.b .nil pass0 (pa_cons (pe_ix ix_list (pv 2) (pv 4) (fun _ _ => rfl)) (pa_cons (pe_ix ix_tup (pv 0) (pv 5) (fun _ _ => rfl)) pa_nil))))
          (pss_one (ps_if (pt_cmp (pc_dnotin (hu_of hr) (pv 6) (pv 3)))
            (pss_cons (ps_dput (hu_of hr) (pv 3) (pv 6) (pe_tup (pa_cons (pe_ix ix_list (pv 2) (pv 4) (fun _ _ => rfl)) (pa_cons (pv 5) pa_nil))) rfl)
            (pss_one (ps_expr (pe_bm PySem.F.plainAttrs_list PySem.F.slot_list_append PySem.F.type_list_append mt_append (pv 2) (pa_cons (pv 6) pa_nil))))) pss_nil))))
        (pss_one (ps_aug (i := 4) nd rfl (.inl rfl) pe_int ip_add))))
      (pss_one (ps_ret (pe_tup (pa_cons (pv 2) (pa_cons (pv 3) pa_nil))))))), ?_⟩
    have hgn : gvs.length = gens.length := Paired.length hgp
    -- found, ways, at = [points], {points: None}, 0
    refine ⟨.ref pa, rfl, small_size (by simp), fun l nl => ?_⟩
    have e1 : Evo H (upd H l (.lst [.ref pa])) := evo_new nl
    intro d nd2
    have e2 : Evo (upd H l (.lst [.ref pa])) (upd (upd H l (.lst [.ref pa])) d (.dT [])) := evo_new nd2
    have hpk : (upd (upd H l (.lst [.ref pa])) d (.dT [])) pa = some (.tup ((kvS S).map kV)) := by
      rw [kvS_map]
      exact e2 _ _ (e1 _ _ hpa)
    refine ⟨.ref pa, rfl, upd_same, pa, kvS S, rfl, hpk, _, _, _, rfl, ?_⟩
    have hHl : H l = none := nl
    have s1 : Same H (upd H l (.lst [.ref pa])) := same_new nl
    have hHd : H d = none := s1.free nd2
    have dl : l ≠ d := fun z => by
      rw [← z, upd_same] at nd2
      cases nd2
    have s3 : Same H (upd (upd (upd H l (.lst [.ref pa])) d (.dT [])) d (.dT [(kvS S, .non)])) := same_put (s1.trans (same_new nd2)) hHd
    refine while_by (fun σ H3 => ∃ (a : Nat) (F : List (List Nat)) (vs : List V) (kvs : List (List L2.Key × V)) (y5 y6 : Option V), σ = [some (.ref ga), some (.ref pa), some (.ref l), some (.ref d), some (.int (a : Int)), y5, y6] ∧ a ≤ F.length ∧ WInv H gens S l d F vs kvs H3 ∧
        ∀ i, i < a → ∀ T, F[i]? = some T → ∀ g ∈ gens, img g T ∈ F)
      (fun σ _ => match σ[4]? with | some (some (V.int z)) => (1000 - z).toNat | _ => 0) ?_ ?_ ?_
    · refine ⟨0, [S], [.ref pa], [(kvS S, .non)], none, none, rfl, Nat.zero_le _, ⟨s3, ?_, ?_, upd_same, rfl, List.pairwise_singleton _ _, List.mem_singleton_self _, fun T hT => ?_⟩, fun i hi => absurd hi (Nat.not_lt_zero _)⟩
      · rw [upd_ne dl, upd_ne dl, upd_same]
      · exact .cons ⟨pa, rfl, s3 _ _ hpa⟩ .nil
      · rw [List.mem_singleton.mp hT]
        exact .refl
    · -- a turn, or the end
      rintro σ H3 ⟨a, F, vs, kvs, y5, y6, rfl, haF, I, hcl⟩
      have hlen : vs.length = F.length := Paired.length I.ps
      have hFset : ∀ T ∈ F, IsSet n k T := fun T hT => (I.reach T hT).set hG hS
      have hF128 := few_sets hn I.nd hFset
      refine ⟨.int (a : Int), rfl, .ref l, rfl, l, vs, rfl, .inl (SqL.of I.hl), (a : Int), (vs.length : Nat), rfl, rfl, _, rfl, ite2 (fun hlt => ?_) (fun hlt => ?_)⟩
      · have hlt : a < F.length := by
          have := of_decide_eq_true hlt
          omega
        obtain ⟨T, hT⟩ : ∃ T, F[a]? = some T := ⟨F[a], List.getElem?_eq_getElem hlt⟩
        have hTF : T ∈ F := List.mem_of_getElem? hT
        have hTs := hFset T hTF
        -- for k in range(len(gens))
        refine ⟨.ref ga, rfl, ga, gvs, rfl, .inr (SqT.of (I.sm _ _ hga)), _, rfl, by omega, by omega, ?_⟩
        refine for_range (lo := 0) (n := ((gvs.length : Nat) : Int).toNat) (fun j σ H4 => ∃ (F' : List (List Nat)) (vs' : List V) (kvs' : List (List L2.Key × V)) (y5 y6 : Option V), σ = [some (.ref ga), some (.ref pa), some (.ref l), some (.ref d), some (.int (a : Int)), y5, y6] ∧ WInv H gens S l d F' vs' kvs' H4 ∧
            (∃ more, F' = F ++ more) ∧ ∀ i, i < j → ∀ g, gens[i]? = some g → img g T ∈ F') ?_ ?_ ?_
        · exact ⟨F, vs, kvs, y5, y6, rfl, I, ⟨[], (List.append_nil F).symm⟩, fun i hi => absurd hi (Nat.not_lt_zero _)⟩
        · rintro j σ H4 hj ⟨F', vs', kvs', z5, z6, rfl, J, ⟨more, rfl⟩, hdone⟩
          have hj' : j < gens.length := by omega
          have hlen' : vs'.length = (F ++ more).length := Paired.length J.ps
          have hT' : (F ++ more)[a]? = some T := by
            rw [List.getElem?_append_left hlt]
            exact hT
          obtain ⟨va, hva, hvT⟩ := Paired.getR J.ps hT'
          obtain ⟨g, hg⟩ : ∃ g, gens[j]? = some g := ⟨gens[j], List.getElem?_eq_getElem hj'⟩
          have hgm : g ∈ gens := List.mem_of_getElem? hg
          obtain ⟨vg, hvg, hvgT⟩ := Paired.getR (hgp.evo (evo_of_same J.sm)) hg
          have hF' : ∀ U ∈ F ++ more, IsSet n k U := fun U hU => (J.reach U hU).set hG hS
          have hF128' := few_sets hn J.nd hF'
          -- other = image_of(found[at], gens[k])
          refine ⟨.ref l, rfl, .int (a : Int), rfl, l, vs', (a : Int), va, rfl, rfl, SqL.of J.hl, atI_nat hva, ?_⟩
          refine ⟨.ref ga, rfl, .int (0 + (j : Int)), rfl, ga, gvs, 0 + (j : Int), vg, rfl, rfl, SqT.of (J.sm _ _ hga), at_of (by omega) hvg, ?_⟩
          refine ⟨T, g, va, vg, rfl, hvT, hvgT, fun x hx => by rw [(hG g hgm).len]; exact hTs.bd x hx, Nat.le_trans (isSet_len hn hTs) (by decide), fun H5 z s5 hz => ?_⟩
          obtain ⟨b, rfl, hb⟩ := hz
          have J5 : WInv H gens S l d (F ++ more) vs' kvs' H5 := ⟨J.sm.trans s5, s5 _ _ J.hl, J.ps.evo (evo_of_same s5), s5 _ _ J.hd, J.ks, J.nd, J.one, J.reach⟩
          have hbk : H5 b = some (.tup ((kvS (img g T)).map kV)) := by
            rw [kvS_map]
            exact hb
          -- if other not in ways
          refine ⟨.ref b, rfl, .ref d, rfl, d, valV kvs' (kvS (img g T)), rfl, DGet.t J5.hd hbk, _, rfl, ?_⟩
          rw [valV_isSome J5.ks]
          by_cases hin : img g T ∈ F ++ more
          · rw [decide_eq_true hin]
            refine iteF ⟨F ++ more, vs', kvs', _, _, rfl, J5, ⟨more, rfl⟩, fun i hi g2 hg2 => ?_⟩
            rcases Nat.lt_or_ge i j with c | c
            · exact hdone i c g2 hg2
            · rw [show i = j by omega, hg] at hg2
              cases hg2
              exact hin
          · rw [decide_eq_false hin]
            have hva5 : Tp H5 va T := hvT.evo (evo_of_same s5)
            refine iteT ⟨.ref l, rfl, .int (a : Int), rfl, l, vs', (a : Int), va, rfl, rfl, SqL.of J5.hl, atI_nat hva, .int (0 + (j : Int)), rfl, small_size (by simp), fun t nt => ?_⟩
            have s6 : Same H5 (upd H5 t (.tup [va, .int (0 + (j : Int))])) := same_new nt
            refine ⟨.ref d, rfl, .ref b, rfl, d, _, rfl, DPut.t (s6 _ _ J5.hd) (s6 _ _ hbk) ?_, ?_⟩
            · have := congrArg List.length J5.ks
              rw [List.length_map, List.length_map] at this
              exact small_lt (by omega)
            · rw [putK_new _ (valV_none J5.ks hin)]
              have hd6 : (upd H5 t (.tup [va, .int (0 + (j : Int))])) d = some (.dT kvs') := s6 _ _ J5.hd
              have ld : l ≠ d := dl
              have hl7 : (upd (upd H5 t (.tup [va, .int (0 + (j : Int))])) d (.dT (kvs' ++ [(kvS (img g T), .ref t)]))) l = some (.lst vs') := by
                rw [upd_ne ld]
                exact s6 _ _ J5.hl
              refine ⟨.ref l, rfl, .inl ⟨rfl, _, SqL.of hl7⟩, .ref b, rfl, l, vs', .ref b, rfl, rfl, hl7, small_lt (by omega), ?_⟩
              have ev7 : Evo H5 (upd (upd H5 t (.tup [va, .int (0 + (j : Int))])) d (.dT (kvs' ++ [(kvS (img g T), .ref t)]))) := (evo_of_same s6).trans (evo_dT hd6)
              have ev8 := ev7.trans (evo_lst (o := .lst (vs' ++ [.ref b])) hl7)
              refine ⟨F ++ more ++ [img g T], vs' ++ [.ref b], kvs' ++ [(kvS (img g T), .ref t)], _, _, rfl, ⟨?_, upd_same, Paired.snoc (J5.ps.evo ev8) ⟨b, rfl, ev8 _ _ hb⟩, ?_, ?_, ?_, ?_, ?_⟩, ⟨more ++ [img g T], by rw [List.append_assoc]⟩, fun i hi g2 hg2 => ?_⟩
              · exact same_put (same_put (J5.sm.trans s6) hHd) hHl
              · rw [upd_ne (Ne.symm ld), upd_same]
              · rw [List.map_append, List.map_append, J5.ks]
                rfl
              · exact List.nodup_append.mpr ⟨J5.nd, List.pairwise_singleton _ _, fun x hx y hy e => hin (by rw [← List.mem_singleton.mp hy, ← e]; exact hx)⟩
              · exact List.mem_append.mpr (.inl J5.one)
              · intro U hU
                rcases List.mem_append.mp hU with c | c
                · exact J5.reach U c
                · rw [List.mem_singleton.mp c]
                  exact .step (I.reach T hTF) hgm
              · rcases Nat.lt_or_ge i j with c | c
                · exact List.mem_append.mpr (.inl (hdone i c g2 hg2))
                · rw [show i = j by omega, hg] at hg2
                  cases hg2
                  exact List.mem_append.mpr (.inr (List.mem_singleton_self _))
        · rintro σ H4 ⟨F', vs', kvs', z5, z6, rfl, J, ⟨more, rfl⟩, hdone⟩
          -- at += 1
          have hF' : ∀ U ∈ F ++ more, IsSet n k U := fun U hU => (J.reach U hU).set hG hS
          refine ⟨.int (a : Int), rfl, (a : Int), 1, rfl, rfl, ⟨a + 1, F ++ more, vs', kvs', z5, z6, rfl, ?_, J, fun i hi U hU g hg => ?_⟩, ?_⟩
          · rw [List.length_append]
            omega
          · rcases Nat.lt_or_ge i a with c | c
            · rw [List.getElem?_append_left (by omega)] at hU
              exact List.mem_append.mpr (.inl (hcl i c U hU g hg))
            · have ei : i = a := by omega
              rw [ei, List.getElem?_append_left hlt, hT] at hU
              cases hU
              obtain ⟨j, hj, rfl⟩ := List.getElem_of_mem hg
              exact hdone j (by omega) _ (List.getElem?_eq_getElem hj)
          · show (1000 - ((a : Int) + 1)).toNat < (1000 - (a : Int)).toNat
            omega
      · -- return (found, ways)
        have hge : ¬ a < F.length := fun c => hlt (decide_eq_true (by omega))
        refine ⟨.ref l, rfl, .ref d, rfl, small_size (by simp), fun t nt => ?_⟩
        have st : Same H3 (upd H3 t (.tup [.ref l, .ref d])) := same_new nt
        refine q _ t l d F (I.sm.trans st) upd_same ⟨vs, st _ _ I.hl, I.ps.evo (evo_of_same st)⟩ ⟨I.one, fun T hT g hg => ?_, I.reach⟩ hF128
        obtain ⟨i, hi, rfl⟩ := List.getElem_of_mem hT
        exact hcl i (by omega) _ (List.getElem?_eq_getElem hi) g hg
    · rintro σ H3 Q1 Q2 hq ⟨v1, e1, v2, e2, l2, ys, e3, hs, i, j, e4, e5, k2, e6, hk⟩
      exact ⟨v1, e1, v2, e2, l2, ys, e3, hs, i, j, e4, e5, k2, e6, hq _ _ hk⟩
end
end KW
end
section
namespace KW
open PySem PySem.Spec PyProof.Rows L2 KM
/-! ### sets of at most k points, point by point -/
def prn (k : Nat) : Nat → List (List Nat)
  | 0 => [[]]
  | i + 1 => prn k i ++ ((prn k i).filter fun S => decide (S.length < k)).map (· ++ [i])
theorem prn_eq (k : Nat) : ∀ i, prn k i = (subs i).filter fun S => decide (S.length ≤ k)
  | 0 => by
    show [[]] = List.filter _ [[]]
    rw [List.filter_cons, if_pos (decide_eq_true (show ([] : List Nat).length ≤ k from Nat.zero_le k))]
    rfl
  | i + 1 => by
    show prn k i ++ ((prn k i).filter fun S => decide (S.length < k)).map (· ++ [i]) = (subs i ++ (subs i).map (· ++ [i])).filter _
    rw [prn_eq k i, List.filter_append, List.filter_filter, List.filter_map]
    congr 2
    refine List.filter_congr fun S _ => ?_
    show (decide (S.length < k) && decide (S.length ≤ k)) = decide ((S ++ [i]).length ≤ k)
    rw [List.length_append, List.length_singleton, Bool.eq_iff_iff, Bool.and_eq_true_iff, decide_eq_true_iff, decide_eq_true_iff, decide_eq_true_iff]
    omega
theorem prn_len {k i : Nat} (h : i ≤ 7) : (prn k i).length ≤ 128 := by
  rw [prn_eq]
  exact Nat.le_trans (List.length_filter_le _ _) (subs_len h)
theorem prn_sets (n k : Nat) : lsort ((prn k n).filter fun S => decide (S.length = k)) = ksets n k := by
  unfold ksets
  congr 1
  rw [prn_eq, List.filter_filter]
  refine List.filter_congr fun S _ => ?_
  rw [Bool.eq_iff_iff, Bool.and_eq_true_iff, decide_eq_true_iff, decide_eq_true_iff, beq_iff_eq]
  omega
theorem ksets_few {n k : Nat} (hn : n ≤ 7) : ((subs n).filter fun S => S.length == k).length < 64 := by
  by_cases hk : k ≤ 7
  · have : ∀ n, n < 8 → ∀ k, k < 8 → ((subs n).filter fun S => S.length == k).length < 64 := by decide +kernel
    exact this n (by omega) k (by omega)
  · have : ((subs n).filter fun S => S.length == k) = [] := by
      refine List.filter_eq_nil_iff.mpr fun S hS h => ?_
      have h1 : S.length = k := by simpa using h
      have h2 : IsSet n k S := ⟨(mem_subs.mp hS).1, (mem_subs.mp hS).2, h1⟩
      have := isSet_len hn h2
      omega
    rw [this]
    decide
theorem filter_snoc {α : Type} (p : α → Bool) (l : List α) (x : α) : (l ++ [x]).filter p = l.filter p ++ (if p x = true then [x] else []) := by
  rw [List.filter_append, List.filter_cons, List.filter_nil]
section
variable {P : Program} {w : World} {K : PySem.W.Frag} {mg : Str → Option Value} {base : Heap}
def spSets : Sp := fun vs H Q _ => ∃ n k : Nat, vs = [.int (n : Int), .int (k : Int)] ∧ n ≤ 7 ∧ ∀ H' l, Same H H' → H l = none → Lts H' l (ksets n k) → Q (.ref l) H'
theorem ok_sets_of (Z : Defs K mg) : FnOk P w K mg base CX0 1 Z.sets_of.f Z.sets_of.fd ["degree", "size"] spSets := by
  refine Z.sets_of.F.ok sc_sets_of (fun vs H Q E h => ?_) (fun cdv A outer s H vs Q E hr h => ?_)
  · obtain ⟨n, k, rfl, _⟩ := h
    rfl
  · obtain ⟨n, k, rfl, hn, q⟩ := h
    have nd := sc_sets_of.nd
    refine ⟨_, (pss_cons (ps_set (i := 2) nd rfl (.inl rfl) (pe_lst (pa_cons (pe_tup pa_nil) pa_nil)))
      (pss_cons (ps_for PassesOwn.never rfl (pi_range1 (by rfl) Z.bare.range (pa_cons (pv 0) pa_nil)) (pg_name (i := 3) nd rfl (.inr rfl))
        (pss_one (ps_set (i := 2) nd rfl (.inl rfl) (pe_op op_cat (pv 2) (pe_lc (own := [("some", 4)]) (g := gName 4) rfl nd (pi_list (pv 2)) (blkOk_by (N := N_sets_of) (sc := defScope s_sets_of) (by decide +kernel)) (fun _ _ _ _ _ => pg_name (i := 4) nd rfl (Or.inl rfl)) (fun _ _ _ _ _ => (pts_one (pt_cmpR op_lt (pe_callB (lenS (K := K)) (by rfl) Z.bare.len PySem.boot_len (pa_cons (pv 4) pa_nil)) (pv 1) (nomark _)))) (fun _ _ _ _ _ => (pe_op (catA (K := K)) (pv 4) (pe_tup (pa_cons (pv 3) pa_nil)))))))))
      (pss_one (ps_ret (pe_callB cr_sortS (by rfl) Z.bare.sorted boot_sorted (pa_cons (pe_lc (own := [("some", 4)]) (g := gName 4) rfl nd (pi_list (pv 2)) (blkOk_by (N := N_sets_of) (sc := defScope s_sets_of) (by decide +kernel)) (fun _ _ _ _ _ => pg_name (i := 4) nd rfl (Or.inl rfl)) (fun _ _ _ _ _ => (pts_one (pt_cmpR op_eq (pe_callB (lenS (K := K)) (by rfl) Z.bare.len PySem.boot_len (pa_cons (pv 4) pa_nil)) (pv 1) (nomark _)))) (fun _ _ _ _ _ => (pv 4))) pa_nil)))))), ?_⟩
    -- found = [()]
    refine ⟨small_size (by simp), fun t0 nt0 => ⟨small_size (by simp), fun l0 nl0 => ?_⟩⟩
    have s0 : Same H (upd (upd H t0 (.tup [])) l0 (.lst [.ref t0])) := (same_new nt0).trans (same_new nl0)
    -- for point in range(degree)
    refine ⟨.int (n : Int), rfl, (n : Int), rfl, by omega, by omega, ?_⟩
    refine for_range (lo := 0) (n := ((n : Nat) : Int).toNat) (fun i σ H3 => ∃ (l : Addr) (y3 y4 : Option V), σ = [some (.int (n : Int)), some (.int (k : Int)), some (.ref l), y3, y4] ∧ Same H H3 ∧ Lts H3 l (prn k i)) ?_ ?_ ?_
    · refine ⟨l0, none, none, rfl, s0, [.ref t0], upd_same, .cons ⟨t0, rfl, ?_⟩ .nil⟩
      rw [upd_ne (fun z => by rw [← z, upd_same] at nl0; cases nl0), upd_same]
      rfl
    · rintro i σ H3 hi ⟨l, y3, y4, rfl, sm, vs, hl, hp⟩
      have hi7 : i ≤ 7 := by omega
      have hlen : vs.length = (prn k i).length := Paired.length hp
      have h128 := prn_len (k := k) hi7
      refine ⟨.ref l, rfl, .ref l, rfl, l, rfl, ⟨_, SqL.of hl⟩, fun D nD => ?_⟩
      refine lc_list (xs := vs) (fun j H4 => Same H3 H4 ∧ ∃ ws, H4 D = some (.lst ws) ∧ Tps H4 ws ((((prn k i).take j).filter fun S => decide (S.length < k)).map (· ++ [i]))) ⟨same_new nD, [], upd_same, .nil⟩ (fun j H4 _ hP => SqL.of (hP.1 _ _ hl)) ?_ ?_
      · rintro j x H4 hx ⟨s4, ws, hD, hw⟩
        obtain ⟨S, hS, a, rfl, ha⟩ := Paired.getL (hp.evo (evo_of_same s4)) hx
        have hjl : j < (prn k i).length := (List.getElem?_eq_some_iff.mp hS).1
        have hwl : ws.length < 100000 := by
          have h1 : ws.length = _ := Paired.length hw
          rw [List.length_map] at h1
          have h2 := List.length_filter_le (fun S => decide (S.length < k)) ((prn k i).take j)
          rw [List.length_take] at h2
          omega
        have hnx : (((prn k i).take (j + 1)).filter fun S => decide (S.length < k)).map (· ++ [i]) = (((prn k i).take j).filter fun S => decide (S.length < k)).map (· ++ [i]) ++ (if decide (S.length < k) = true then [S ++ [i]] else []) := by
          rw [List.take_add_one, hS]
          show ((List.take j (prn k i) ++ [S]).filter _).map _ = _
          rw [filter_snoc, List.map_append]
          split <;> rfl
        refine ⟨rfl, .ref a, rfl, a, iv S, rfl, .inr (SqT.of ha), .int (k : Int), rfl, _, _, rfl, rfl, _, rfl, ?_⟩
        have hlS : ((iv S).length : Int) = (S.length : Int) := by rw [iv_len]
        rw [hlS]
        by_cases hc : S.length < k
        · rw [decide_eq_true (show (S.length : Int) < (k : Int) by omega)]
          have fin : ∀ H5 z, Same H4 H5 → Tp H5 z (S ++ [i]) → ∃ acc, H5 D = some (.lst acc) ∧ acc.length < sizeLine ∧ (Same H3 (upd H5 D (.lst (acc ++ [z]))) ∧ ∃ ws, (upd H5 D (.lst (acc ++ [z]))) D = some (.lst ws) ∧ Tps (upd H5 D (.lst (acc ++ [z]))) ws ((((prn k i).take (j + 1)).filter fun S => decide (S.length < k)).map (· ++ [i]))) := by
            intro H5 z s5 hz
            have hD5 := s5 _ _ hD
            refine ⟨ws, hD5, small_lt (by omega), same_put (s4.trans s5) nD, ws ++ [z], upd_same, ?_⟩
            rw [hnx, decide_eq_true hc, if_pos rfl]
            have ev : Evo H5 (upd H5 D (.lst (ws ++ [z]))) := evo_lst hD5
            exact Paired.snoc ((hw.evo (evo_of_same s5)).evo ev) (hz.evo ev)
          refine ⟨.ref a, rfl, .int (0 + (i : Int)), rfl, small_size (by simp), fun t nt => ?_⟩
          have st : Same H4 (upd H4 t (.tup [.int (0 + (i : Int))])) := same_new nt
          have ei : ([.int (0 + (i : Int))] : List V) = iv [i] := by
            rw [Int.zero_add]
            rfl
          refine ⟨a, t, iv S, [.int (0 + (i : Int))], rfl, rfl, SqT.of (st _ _ ha), SqT.of upd_same, ?_, fun he => ?_, fun _ he => (nomatch he), fun _ _ p np => ?_⟩
          · rw [iv_len]
            have := (mem_subs.mp (List.mem_filter.mp (prn_eq k i ▸ List.mem_of_getElem? hS)).1)
            have := isSet_len (n := i) hi7 ⟨this.1, this.2, rfl⟩
            exact small_size (by simp; omega)
          · have hnil : S = [] := iv_inj he
            refine fin _ _ st ⟨t, rfl, ?_⟩
            rw [upd_same, hnil, ei]
            rfl
          · refine fin _ _ (st.trans (same_new np)) ⟨p, rfl, ?_⟩
            rw [upd_same, iv_append, ei]
        · rw [decide_eq_false (show ¬ (S.length : Int) < (k : Int) by omega)]
          refine ⟨s4, ws, hD, ?_⟩
          rw [hnx, decide_eq_false hc, if_neg Bool.false_ne_true, List.append_nil]
          exact hw
      · rintro H4 ⟨s4, ws, hD, hw⟩
        rw [List.take_of_length_le (by omega)] at hw
        have hwl : ws.length = _ := Paired.length hw
        rw [List.length_map] at hwl
        have h2 := List.length_filter_le (fun S => decide (S.length < k)) (prn k i)
        refine ⟨l, D, vs, ws, rfl, rfl, s4 _ _ hl, hD, small_size (by omega), fun p np => ?_⟩
        refine ⟨p, _, _, rfl, (sm.trans s4).trans (same_new np), vs ++ ws, upd_same, ?_⟩
        have ev : Evo H4 (upd H4 p (.lst (vs ++ ws))) := evo_new np
        exact Paired.app2 ((hp.evo (evo_of_same s4)).evo ev) (hw.evo ev)
    · rintro σ H3 ⟨l, y3, y4, rfl, sm, vs, hl, hp⟩
      rw [Int.toNat_natCast] at hp
      have hlen : vs.length = (prn k n).length := Paired.length hp
      have h128 := prn_len (k := k) hn
      -- return sorted([..])
      refine ⟨.ref l, rfl, l, rfl, ⟨_, SqL.of hl⟩, fun D nD => ?_⟩
      refine lc_list (xs := vs) (fun j H4 => Same H3 H4 ∧ ∃ ws, H4 D = some (.lst ws) ∧ Tps H4 ws (((prn k n).take j).filter fun S => decide (S.length = k))) ⟨same_new nD, [], upd_same, .nil⟩ (fun j H4 _ hP => SqL.of (hP.1 _ _ hl)) ?_ ?_
      · rintro j x H4 hx ⟨s4, ws, hD, hw⟩
        obtain ⟨S, hS, a, rfl, ha⟩ := Paired.getL (hp.evo (evo_of_same s4)) hx
        have hjl : j < (prn k n).length := (List.getElem?_eq_some_iff.mp hS).1
        have hwl : ws.length < 100000 := by
          have h1 : ws.length = _ := Paired.length hw
          have h2 := List.length_filter_le (fun S => decide (S.length = k)) ((prn k n).take j)
          rw [List.length_take] at h2
          omega
        have hnx : ((prn k n).take (j + 1)).filter (fun S => decide (S.length = k)) = ((prn k n).take j).filter (fun S => decide (S.length = k)) ++ (if decide (S.length = k) = true then [S] else []) := by
          rw [List.take_add_one, hS]
          exact filter_snoc _ _ _
        refine ⟨rfl, .ref a, rfl, a, iv S, rfl, .inr (SqT.of ha), .int (k : Int), rfl, rfl, _, rfl, ?_⟩
        rw [dec_int, iv_len]
        by_cases hc : S.length = k
        · have e : (((S.length : Nat) : Int) == (k : Int)) = true := by
            rw [beq_iff_eq]
            omega
          rw [e]
          refine ⟨.ref a, rfl, ws, hD, small_lt (by omega), same_put s4 nD, ws ++ [.ref a], upd_same, ?_⟩
          rw [hnx, decide_eq_true hc, if_pos rfl]
          have ev : Evo H4 (upd H4 D (.lst (ws ++ [.ref a]))) := evo_lst hD
          exact Paired.snoc (hw.evo ev) ⟨a, rfl, ev _ _ ha⟩
        · have e : (((S.length : Nat) : Int) == (k : Int)) = false := by
            rw [beq_eq_false_iff_ne]
            omega
          rw [e]
          refine ⟨s4, ws, hD, ?_⟩
          rw [hnx, decide_eq_false hc, if_neg Bool.false_ne_true, List.append_nil]
          exact hw
      · rintro H4 ⟨s4, ws, hD, hw⟩
        rw [List.take_of_length_le (by omega)] at hw
        have hperm := lsort_perm ((prn k n).filter fun S => decide (S.length = k))
        rw [prn_sets] at hperm
        refine ⟨D, ws, _, k, rfl, SqL.of hD, hw, hperm.nodup_iff.mp (ksets_nd n k), ?_, fun S hS => ?_, fun ys p hys np => ?_⟩
        · rw [← hperm.length_eq, (ksets_perm n k).length_eq]
          exact ksets_few hn
        · have := mem_ksets.mp (hperm.mem_iff.mpr hS)
          exact ⟨this.len, fun x hx => by have := this.bd x hx; omega⟩
        · rw [prn_sets] at hys
          exact q _ p ((sm.trans s4).trans (same_new np)) ((sm.trans s4).free np) ⟨ys, upd_same, hys.evo (evo_new np)⟩
end
end KW
end
section
namespace KM
/-! ### a set is least if no set ahead of it reaches it -/
theorem Clo.seen_iff {n : Nat} {gens E : List (List Nat)} (C : Clo n gens E) {k i : Nat} {S : List Nat} (hS : (ksets n k)[i]? = some S) : (∃ R ∈ (ksets n k).take i, SReach gens R S) ↔ isLeast E S = false := by
  have hi : i < (ksets n k).length := (List.getElem?_eq_some_iff.mp hS).1
  have eS : (ksets n k)[i] = S := (List.getElem?_eq_some_iff.mp hS).2
  have sS := mem_ksets.mp (List.mem_of_getElem? hS)
  have pw := (List.pairwise_iff_getElem).mp (ksets_lxs n k)
  constructor
  · rintro ⟨R, hR, hr⟩
    obtain ⟨j, hj, rfl⟩ := List.getElem_of_mem hR
    rw [List.length_take] at hj
    rw [List.getElem_take] at hr
    have hjl : j < (ksets n k).length := by omega
    have sR := mem_ksets.mp (List.getElem_mem hjl)
    obtain ⟨x, hx, e⟩ := (C.sreach sR).mp hr
    obtain ⟨y, hy, e2⟩ := C.back sR hx
    rw [e] at e2
    cases q : isLeast E S with
    | false => rfl
    | true =>
      have h1 := isLeast_iff.mp q y hy
      rw [e2] at h1
      have h2 := pw j i hjl hi (by omega)
      rw [eS] at h2
      have h3 : (ksets n k)[j] = (ksets n k)[i] := by rw [eS]; exact lx_eq h1 h2
      have := nodup_inj (ksets_nd n k) hjl hi h3
      omega
  · intro q
    have : ∃ x ∈ E, lx (img x S) S = true := by
      refine Classical.byContradiction fun h => ?_
      have : isLeast E S = true := isLeast_iff.mpr fun x hx => by
        cases e : lx (img x S) S with
        | false => rfl
        | true => exact absurd ⟨x, hx, e⟩ h
      rw [this] at q
      cases q
    obtain ⟨x, hx, hl⟩ := this
    have sT := img_set (C.perm hx) sS
    obtain ⟨j, hj, ej⟩ := List.getElem_of_mem (mem_ksets.mpr sT)
    have hji : j < i := by
      rcases Nat.lt_trichotomy j i with z | z | z
      · exact z
      · subst z
        rw [← ej, eS, lx_irrefl] at hl
        cases hl
      · have := pw i j hi hj z
        rw [ej, eS, hl] at this
        cases this
    refine ⟨img x S, ?_, ?_⟩
    · rw [← ej]
      exact List.mem_of_getElem? (by rw [List.getElem?_take, if_pos hji, List.getElem?_eq_getElem hj])
    · obtain ⟨y, hy, e⟩ := C.back sS hx
      exact (C.sreach sT).mpr ⟨y, hy, e⟩
/-- how many least sets of each size -/
def countsL (E : List (List Nat)) (n : Nat) : List Nat := (List.range (n + 1)).map fun k => (leasts E n k).length
theorem leasts_few {n k : Nat} {E : List (List Nat)} : (leasts E n k).length ≤ (ksets n k).length := List.length_filter_le _ _
end KM
namespace KW
open PySem PySem.Spec PyProof.Rows L2 KM
theorem keys_put {kvs : List (List L2.Key × V)} {Fs : List (List Nat)} (e : kvs.map (·.1) = Fs.map kvS) (T : List Nat) (v : V) :
    (putK kvs (kvS T) v).map (·.1) = (if T ∈ Fs then Fs else Fs ++ [T]).map kvS := by
  have hm : (kvs.any fun kv => decide (kv.1 = kvS T)) = decide (T ∈ Fs) := by
    rw [Bool.eq_iff_iff, decide_eq_true_iff, List.any_eq_true]
    constructor
    · rintro ⟨p, hp, h⟩
      have : p.1 ∈ Fs.map kvS := by
        rw [← e]
        exact List.mem_map.mpr ⟨p, hp, rfl⟩
      obtain ⟨U, hU, h2⟩ := List.mem_map.mp this
      rw [← kvS_inj (h2.trans (of_decide_eq_true h))]
      exact hU
    · intro h
      have : kvS T ∈ kvs.map (·.1) := by
        rw [e]
        exact List.mem_map.mpr ⟨T, h, rfl⟩
      obtain ⟨p, hp, h2⟩ := List.mem_map.mp this
      exact ⟨p, hp, decide_eq_true h2⟩
  unfold putK
  rw [hm]
  by_cases h : T ∈ Fs
  · rw [if_pos (decide_eq_true h), if_pos h, List.map_map, ← e]
    refine List.map_congr_left fun p _ => ?_
    show (if p.1 = kvS T then (p.1, v) else p).1 = p.1
    split <;> rfl
  · rw [if_neg (by rw [decide_eq_false h]; decide), if_neg h, List.map_append, List.map_append, e]
    rfl
end KW
end
section
namespace KW
open PySem PySem.Spec PyProof.Rows L2 KM
/-- all tracked objects stay but those at two addresses -/
def But2 (l d : Addr) (H H' : Hp) : Prop := ∀ b o, b ≠ l → b ≠ d → H b = some o → H' b = some o
theorem But2.same {l d : Addr} {H H1 H2 : Hp} (a : But2 l d H H1) (b : Same H1 H2) : But2 l d H H2 := fun c o h1 h2 e => b c o (a c o h1 h2 e)
theorem But2.put {l d p : Addr} {H H1 : Hp} {o : HO} (a : But2 l d H H1) (h : p = l ∨ p = d) : But2 l d H (upd H1 p o) := fun c u h1 h2 e => by
  have : c ≠ p := fun z => by
    rcases h with h | h
    · exact h1 (z.trans h)
    · exact h2 (z.trans h)
  rw [upd_ne this]
  exact a c u h1 h2 e
section
variable {P : Program} {w : World} {K : PySem.W.Frag} {mg : Str → Option Value} {base : Heap}
def spLeast : Sp := fun vs H Q _ => ∃ (v : V) (n k : Nat) (gens E : List (List Nat)), vs = [v, .int (k : Int)] ∧ Grp H v n gens ∧ Good n gens ∧ Clo n gens E ∧ k ≤ n ∧ ∀ H' z, Same H H' → Tts H' z (leasts E n k) → Q z H'
/-- the dict of the sets that were met: Fs, those that R tells -/
structure Seen (H : Hp) (d : Addr) (n k : Nat) (R : List Nat → Prop) : Prop where
  ex : ∃ (kvs : List (List L2.Key × V)) (Fs : List (List Nat)), H d = some (.dT kvs) ∧ kvs.map (·.1) = Fs.map kvS ∧ Fs.Nodup ∧ (∀ T ∈ Fs, IsSet n k T) ∧ ∀ T, T ∈ Fs ↔ R T
theorem Seen.mono {H : Hp} {d : Addr} {n k : Nat} {R R' : List Nat → Prop} (s : Seen H d n k R) (h : ∀ T, R T ↔ R' T) : Seen H d n k R' :=
  let ⟨kvs, Fs, h1, h2, h3, h4, h5⟩ := s.ex
  ⟨kvs, Fs, h1, h2, h3, h4, fun T => (h5 T).trans (h T)⟩
theorem Seen.at {H H' : Hp} {d : Addr} {n k : Nat} {R : List Nat → Prop} (s : Seen H d n k R) (h : ∀ o, H d = some o → H' d = some o) : Seen H' d n k R :=
  let ⟨kvs, Fs, h1, h2, h3, h4, h5⟩ := s.ex
  ⟨kvs, Fs, h _ h1, h2, h3, h4, h5⟩
theorem ok_least_sets (Z : Defs K mg) : FnOk P w K mg base CX0 5 Z.least_sets.f Z.least_sets.fd ["group", "size"] spLeast := by
  have G_need_group := ok_need_group (P := P) (w := w) (base := base) Z
  have G_is_in := ok_is_in (P := P) (w := w) (base := base) Z
  have G_sets_of := ok_sets_of (P := P) (w := w) (base := base) Z
  have G_set_ways := ok_set_ways (P := P) (w := w) (base := base) Z
  refine Z.least_sets.F.ok sc_least_sets (fun vs H Q E h => ?_) (fun cdv A outer s H vs Q E hr h => ?_)
  · obtain ⟨v, n, k, gens, E, rfl, _⟩ := h
    rfl
  · obtain ⟨v, n, k, gens, E, rfl, hgrp, hgood, hclo, hk, q⟩ := h
    have nd := sc_least_sets.nd
    have hgrp0 := hgrp
    obtain ⟨ga, g, rfl, hga, gb, gvs, rfl, hgb, hgp⟩ := hgrp
    refine ⟨_, (pss_cons (ps_expr (pe_call G_need_group (hr.mono (by decide)) (by rfl) Z.need_group.g Z.need_group.F.kp Z.need_group.b .nil pass0 (pa_cons (pv 0) pa_nil)))
      (pss_cons (ps_if (pt_not (pt_val (pe_call G_is_in (hr.mono (by decide)) (by rfl) Z.is_in.g Z.is_in.F.kp Z.is_in.b .nil pass0 (pa_cons (pv 1) (pa_cons pe_int (pa_cons (pe_ix ix_tup (pv 0) pe_int (fun _ _ => rfl)) pa_nil))))))
        pss_never pss_nil)
      (pss_cons (ps_par (i := 2) (j := 3) rfl nd rfl rfl (by decide) rfl rfl (pa_cons (pe_lst pa_nil) (pa_cons pe_dnewT pa_nil)) (by rfl))
      (pss_cons (ps_for PassesOwn.never rfl (pi_list (pe_call G_sets_of (hr.mono (by decide)) (by rfl) Z.sets_of.g Z.sets_of.F.kp Z.sets_of.b .nil pass0 (pa_cons (pe_ix ix_tup (pv 0) pe_int (fun _ _ => rfl)) (pa_cons (pv 1) pa_nil)))) (pg_name (i := 4) nd rfl (.inl rfl))
        (pss_one (ps_if (pt_cmp (pc_dnotin (hu_of hr) (pv 4) (pv 3)))
          (pss_cons (ps_expr (pe_bm PySem.F.plainAttrs_list PySem.F.slot_list_append PySem.F.type_list_append mt_append (pv 2) (pa_cons (pv 4) pa_nil)))
          (pss_one (ps_for PassesOwn.never rfl (pi_list (pe_ix ix_tup (pe_call G_set_ways (hr.mono (by decide)) (by rfl) Z.set_ways.g Z.set_ways.F.kp Z.set_ways.b .nil pass0 (pa_cons (pe_ix ix_tup (pv 0) pe_int (fun _ _ => rfl)) (pa_cons (pv 4) pa_nil))) pe_int (fun _ _ => rfl))) (pg_name (i := 5) nd rfl (.inl rfl))
            (pss_one (ps_dput (hu_of hr) (pv 3) (pv 5) pe_bl rfl))))) pss_nil)))
      (pss_one (ps_ret (pe_callTy call_tuple_of (by rfl) Z.bare.tuple boot_tuple (pa_cons (pv 2) pa_nil)))))))), ?_⟩
    -- need_group(group)
    refine ⟨.ref ga, rfl, .ref ga, n, gens, rfl, hgrp0, hgood.lo, Nat.le_trans hgood.hi (by decide), hgood.many, hgood.gs, fun H1 s1 => ?_⟩
    -- is_in(size, 0, group[0])
    refine ⟨.int (k : Int), rfl, .ref ga, rfl, ga, _, 0, .int (n : Int), rfl, rfl, SqT.of (s1 _ _ hga), rfl, (k : Int), 0, (n : Int), rfl, ?_⟩
    rw [decide_eq_true (show (0 : Int) ≤ k by omega), decide_eq_true (show (k : Int) ≤ n by omega)]
    refine ⟨true, rfl, iteF ?_⟩
    -- found, seen = [], {}
    refine ⟨small_size (by simp), fun lf nlf d nd0 => ⟨_, _, rfl, ?_⟩⟩
    have s2 : Same H1 (upd H1 lf (.lst [])) := same_new nlf
    have s3 : Same (upd H1 lf (.lst [])) (upd (upd H1 lf (.lst [])) d (.dT [])) := same_new nd0
    have hlf0 : H lf = none := s1.free nlf
    have hd0 : H d = none := (s1.trans s2).free nd0
    have hld : lf ≠ d := fun z => by
      rw [← z, upd_same] at nd0
      cases nd0
    have hlfA : (upd (upd H1 lf (.lst [])) d (.dT [])) lf = some (.lst []) := s3 _ _ upd_same
    have hdA : (upd (upd H1 lf (.lst [])) d (.dT [])) d = some (.dT []) := upd_same
    have sA : Same H (upd (upd H1 lf (.lst [])) d (.dT [])) := s1.trans (s2.trans s3)
    generalize upd (upd H1 lf (.lst [])) d (.dT []) = HA at hlfA hdA sA
    -- for some in sets_of(group[0], size)
    refine ⟨.ref ga, rfl, ga, _, 0, .int (n : Int), rfl, rfl, SqT.of (sA _ _ hga), rfl, .int (k : Int), rfl, n, k, rfl, hgood.hi, fun H2 l s4 hl0 hL => ?_⟩
    obtain ⟨vs, hl, hp⟩ := hL
    have hlf2 := s4 _ _ hlfA
    have hd2 := s4 _ _ hdA
    have sB := sA.trans s4
    have hllf : l ≠ lf := fun z => by
      rw [z, hlfA] at hl0
      cases hl0
    have hlD : l ≠ d := ne_of hl hd2 (fun z => nomatch z)
    have hvl : vs.length = (ksets n k).length := Paired.length hp
    have h64 : (ksets n k).length < 64 := by
      rw [(ksets_perm n k).length_eq]
      exact ksets_few hgood.hi
    have evo2 : ∀ H3, But2 lf d H2 H3 → Evo H2 H3 := fun H3 hb b xs e => hb b _ (ne_of e hlf2 (fun z => nomatch z)) (ne_of e hd2 (fun z => nomatch z)) e
    have base2 : ∀ H3, But2 lf d H2 H3 → Same H H3 := fun H3 hb b o e => hb b o (ne_of_none e hlf0) (ne_of_none e hd0) (sB b o e)
    refine ⟨l, rfl, ⟨_, SqL.of hl⟩, for_list (xs := vs) (fun i σ H3 => ∃ y4 y5, σ = [some (.ref ga), some (.int (k : Int)), some (.ref lf), some (.ref d), y4, y5] ∧ But2 lf d H2 H3 ∧
        (∃ ws, H3 lf = some (.lst ws) ∧ Tps H3 ws (((ksets n k).take i).filter (isLeast E))) ∧ Seen H3 d n k (fun T => ∃ S ∈ (ksets n k).take i, SReach gens S T)) ?_ ?_ ?_ ?_⟩
    · refine ⟨none, none, rfl, fun b o _ _ e => e, ⟨[], hlf2, .nil⟩, ⟨[], [], hd2, rfl, List.nodup_nil, fun T hT => (nomatch hT), fun T => ⟨fun hT => (nomatch hT), fun ⟨S, hS, _⟩ => (nomatch hS)⟩⟩⟩
    · rintro i σ H3 _ ⟨y4, y5, rfl, hb, _, _⟩
      exact SqL.of (hb _ _ hllf hlD hl)
    · rintro i x σ H3 hx ⟨y4, y5, rfl, hb, ⟨ws, hws, hwp⟩, hseen⟩
      obtain ⟨S, hS, a, rfl, ha⟩ := Paired.getL (hp.evo (evo2 _ hb)) hx
      have sS := mem_ksets.mp (List.mem_of_getElem? hS)
      have hi : i < (ksets n k).length := (List.getElem?_eq_some_iff.mp hS).1
      have hak : H3 a = some (.tup ((kvS S).map kV)) := by
        rw [kvS_map]
        exact ha
      have htk : (ksets n k).take (i + 1) = (ksets n k).take i ++ [S] := by
        rw [List.take_add_one, hS]
        rfl
      have hwl : ws.length < 100000 := by
        have h1 : ws.length = _ := Paired.length hwp
        have h2 := List.length_filter_le (isLeast E) ((ksets n k).take i)
        rw [List.length_take] at h2
        omega
      obtain ⟨kvs, Fs, hdk, hks, hnd, hset, hiff⟩ := hseen.ex
      refine ⟨.ref a, rfl, .ref d, rfl, d, valV kvs (kvS S), rfl, DGet.t hdk hak, _, rfl, ?_⟩
      rw [valV_isSome hks]
      by_cases hin : S ∈ Fs
      · have hleast := (hclo.seen_iff hS).mp ((hiff S).mp hin)
        rw [decide_eq_true hin]
        refine iteF ⟨_, _, rfl, hb, ⟨ws, hws, ?_⟩, hseen.mono fun T => ?_⟩
        · rw [htk, filter_snoc, hleast, if_neg Bool.false_ne_true, List.append_nil]
          exact hwp
        · rw [htk]
          constructor
          · rintro ⟨R, hR, hr⟩
            exact ⟨R, List.mem_append.mpr (.inl hR), hr⟩
          · rintro ⟨R, hR, hr⟩
            rcases List.mem_append.mp hR with c | c
            · exact ⟨R, c, hr⟩
            · rw [List.mem_singleton.mp c] at hr
              obtain ⟨R0, hR0, hr0⟩ := (hiff S).mp hin
              refine ⟨R0, hR0, ?_⟩
              induction hr with
              | refl => exact hr0
              | step _ hg ih => exact .step ih hg
      · have hleast : isLeast E S = true := by
          cases e : isLeast E S with
          | true => rfl
          | false => exact absurd ((hiff S).mpr ((hclo.seen_iff hS).mpr e)) hin
        rw [decide_eq_false hin]
        -- found.append(some)
        refine iteT ⟨.ref lf, rfl, .inl ⟨rfl, _, SqL.of hws⟩, .ref a, rfl, lf, ws, .ref a, rfl, rfl, hws, small_lt (by omega), ?_⟩
        have hb4 : But2 lf d H2 (upd H3 lf (.lst (ws ++ [.ref a]))) := hb.put (.inl rfl)
        have ev4 : Evo H3 (upd H3 lf (.lst (ws ++ [.ref a]))) := evo_lst hws
        have hseen4 : Seen (upd H3 lf (.lst (ws ++ [.ref a]))) d n k (fun T => ∃ S ∈ (ksets n k).take i, SReach gens S T) := hseen.at fun o e => by
          rw [upd_ne (Ne.symm hld)]
          exact e
        have hlf4 : (upd H3 lf (.lst (ws ++ [.ref a]))) lf = some (.lst (ws ++ [.ref a])) := upd_same
        have hwp4 := Paired.snoc (hwp.evo ev4) (show Tp _ (.ref a) S from ⟨a, rfl, ev4 _ _ ha⟩)
        have ha4 := ev4 _ _ ha
        generalize upd H3 lf (.lst (ws ++ [.ref a])) = H4 at hb4 ev4 hseen4 hlf4 hwp4 ha4
        have sm4 := base2 _ hb4
        -- for other in set_ways(group[1], some)[0]
        refine ⟨.ref ga, rfl, ga, _, 1, .ref gb, rfl, rfl, SqT.of (sm4 _ _ hga), rfl, .ref a, rfl, gens, S, n, k, .ref gb, .ref a, rfl, ⟨gb, gvs, rfl, sm4 _ _ hgb, hgp.evo (evo_of_same sm4)⟩, ⟨a, rfl, ha4⟩, sS, hgood.gs, hgood.many, hgood.hi, fun H5 t l2 d2 F s5 ht hL2 hO hF => ?_⟩
        obtain ⟨vs2, hl2, hp2⟩ := hL2
        have hb5 := hb4.same s5
        have hseen5 := hseen4.at (H' := H5) fun o e => s5 _ _ e
        have hd5 : ∃ kvs, H5 d = some (.dT kvs) := let ⟨kvs, _, h, _⟩ := hseen5.ex; ⟨kvs, h⟩
        obtain ⟨kv5, hd5⟩ := hd5
        have hl2d : l2 ≠ d := ne_of hl2 hd5 (fun z => nomatch z)
        have evo5 : ∀ H6, But2 d d H5 H6 → Evo H5 H6 := fun H6 hb b xs e => hb b _ (ne_of e hd5 (fun z => nomatch z)) (ne_of e hd5 (fun z => nomatch z)) e
        refine ⟨t, _, 0, .ref l2, rfl, rfl, SqT.of ht, rfl, l2, rfl, ⟨_, SqL.of hl2⟩, for_list (xs := vs2) (fun j σ H6 => ∃ y5, σ = [some (.ref ga), some (.int (k : Int)), some (.ref lf), some (.ref d), some (.ref a), y5] ∧ But2 d d H5 H6 ∧
            Seen H6 d n k (fun T => (∃ S ∈ (ksets n k).take i, SReach gens S T) ∨ T ∈ F.take j)) ?_ ?_ ?_ ?_⟩
        · exact ⟨y5, rfl, fun b o _ _ e => e, hseen5.mono fun T => ⟨.inl, fun h => h.elim id fun h => (nomatch h)⟩⟩
        · rintro j σ H6 _ ⟨z5, rfl, hb6, _⟩
          exact SqL.of (hb6 _ _ hl2d hl2d hl2)
        · rintro j x σ H6 hx ⟨z5, rfl, hb6, hseen6⟩
          obtain ⟨U, hU, b, rfl, hbU⟩ := Paired.getL (hp2.evo (evo5 _ hb6)) hx
          obtain ⟨kvs6, Fs6, hdk6, hks6, hnd6, hset6, hiff6⟩ := hseen6.ex
          have hbk : H6 b = some (.tup ((kvS U).map kV)) := by
            rw [kvS_map]
            exact hbU
          have hUF : U ∈ F := List.mem_of_getElem? hU
          have sU : IsSet n k U := (hO.reach U hUF).set hgood.gs sS
          refine ⟨.ref d, rfl, .ref b, rfl, d, _, rfl, DPut.t hdk6 hbk ?_, ?_⟩
          · have h1 := congrArg List.length hks6
            rw [List.length_map, List.length_map] at h1
            have h2 := few_sets hgood.hi hnd6 hset6
            exact small_lt (by omega)
          · refine ⟨_, rfl, hb6.put (.inl rfl), ⟨_, _, upd_same, keys_put hks6 U _, ?_, fun T hT => ?_, fun T => ?_⟩⟩
            · split
              · exact hnd6
              · rename_i hn
                exact List.nodup_append.mpr ⟨hnd6, List.pairwise_singleton _ _, fun x hx y hy e => hn (by rw [← List.mem_singleton.mp hy, ← e]; exact hx)⟩
            · split at hT
              · exact hset6 T hT
              · rcases List.mem_append.mp hT with c | c
                · exact hset6 T c
                · rw [List.mem_singleton.mp c]
                  exact sU
            · have htj : F.take (j + 1) = F.take j ++ [U] := by
                rw [List.take_add_one, hU]
                rfl
              rw [htj]
              split
              · rename_i hm
                rw [hiff6]
                constructor
                · rintro (c | c)
                  · exact .inl c
                  · exact .inr (List.mem_append.mpr (.inl c))
                · rintro (c | c)
                  · exact .inl c
                  · rcases List.mem_append.mp c with c | c
                    · exact .inr c
                    · rw [List.mem_singleton.mp c]
                      exact (hiff6 U).mp hm
              · constructor
                · intro c
                  rcases List.mem_append.mp c with c | c
                  · rcases (hiff6 T).mp c with c | c
                    · exact .inl c
                    · exact .inr (List.mem_append.mpr (.inl c))
                  · exact .inr (List.mem_append.mpr (.inr c))
                · rintro (c | c)
                  · exact List.mem_append.mpr (.inl ((hiff6 T).mpr (.inl c)))
                  · rcases List.mem_append.mp c with c | c
                    · exact List.mem_append.mpr (.inl ((hiff6 T).mpr (.inr c)))
                    · exact List.mem_append.mpr (.inr c)
        · rintro σ H6 ⟨z5, rfl, hb6, hseen6⟩
          have hl26 : vs2.length = F.length := Paired.length hp2
          have e26 : F.take vs2.length = F := List.take_of_length_le (by omega)
          rw [e26] at hseen6
          refine ⟨_, _, rfl, fun b o h1 h2 e => hb6 b o h2 h2 (hb5 b o h1 h2 e), ⟨ws ++ [.ref a], hb6 _ _ hld hld (s5 _ _ hlf4), ?_⟩, hseen6.mono fun T => ?_⟩
          · rw [htk, filter_snoc, hleast, if_pos rfl]
            exact Tps.evo (evo5 _ hb6) (Tps.evo (evo_of_same s5) hwp4)
          · rw [htk]
            constructor
            · rintro (⟨R, hR, hr⟩ | c)
              · exact ⟨R, List.mem_append.mpr (.inl hR), hr⟩
              · exact ⟨S, List.mem_append.mpr (.inr (List.mem_singleton_self _)), hO.reach T c⟩
            · rintro ⟨R, hR, hr⟩
              rcases List.mem_append.mp hR with c | c
              · exact .inl ⟨R, c, hr⟩
              · rw [List.mem_singleton.mp c] at hr
                exact .inr (hO.mem.mpr hr)
    · rintro σ H3 ⟨y4, y5, rfl, hb, ⟨ws, hws, hwp⟩, _⟩
      rw [List.take_of_length_le (by omega)] at hwp
      refine ⟨.ref lf, rfl, lf, ws, rfl, .inl ⟨SqL.of hws, fun r nr => ?_⟩⟩
      have ev : Evo H3 (upd H3 r (.tup ws)) := evo_new nr
      exact q _ _ ((base2 _ hb).trans (same_new nr)) ⟨r, ws, rfl, upd_same, hwp.evo ev⟩
def spCounts : Sp := fun vs H Q _ => ∃ (v : V) (n : Nat) (gens E : List (List Nat)), vs = [v] ∧ Grp H v n gens ∧ Good n gens ∧ Clo n gens E ∧ ∀ H' z, Same H H' → Tp H' z (countsL E n) → Q z H'
theorem ok_set_counts (Z : Defs K mg) : FnOk P w K mg base CX0 6 Z.set_counts.f Z.set_counts.fd ["group"] spCounts := by
  have G_need_group := ok_need_group (P := P) (w := w) (base := base) Z
  have G_least_sets := ok_least_sets (P := P) (w := w) (base := base) Z
  refine Z.set_counts.F.ok sc_set_counts (fun vs H Q E h => ?_) (fun cdv A outer s H vs Q E hr h => ?_)
  · obtain ⟨v, n, gens, E, rfl, _⟩ := h
    rfl
  · obtain ⟨v, n, gens, E, rfl, hgrp, hgood, hclo, q⟩ := h
    have nd := sc_set_counts.nd
    have hgrp0 := hgrp
    obtain ⟨ga, g, rfl, hga, _⟩ := hgrp
    refine ⟨_, (pss_cons (ps_expr (pe_call G_need_group (hr.mono (by decide)) (by rfl) Z.need_group.g Z.need_group.F.kp Z.need_group.b .nil pass0 (pa_cons (pv 0) pa_nil)))
      (pss_one (ps_ret (pe_callTy call_tuple_of (by rfl) Z.bare.tuple boot_tuple (pa_cons (pe_lc (own := [("size", 1)]) (g := gName 1) rfl nd (pi_range1 (by rfl) Z.bare.range (pa_cons (pe_op op_add (pe_ix ix_tup (pv 0) pe_int (fun _ _ => rfl)) pe_int) pa_nil)) (blkOk_by (N := N_set_counts) (sc := defScope s_set_counts) (by decide +kernel)) (fun _ _ _ _ _ => pg_name (i := 1) nd rfl (Or.inl rfl)) (fun _ _ _ _ _ => pts_nil) (fun _ _ _ _ _ => (pe_callB (lenS (K := K)) (by rfl) Z.bare.len PySem.boot_len (pa_cons (pe_call G_least_sets (hr.mono (by decide)) (by rfl) Z.least_sets.g Z.least_sets.F.kp Z.least_sets.b .nil pass0 (pa_cons (pv 0) (pa_cons (pv 1) pa_nil))) pa_nil)))) pa_nil))))), ?_⟩
    refine ⟨.ref ga, rfl, .ref ga, n, gens, rfl, hgrp0, hgood.lo, Nat.le_trans hgood.hi (by decide), hgood.many, hgood.gs, fun H1 s1 => ?_⟩
    have hn := hgood.hi
    refine ⟨.ref ga, rfl, ga, _, 0, .int (n : Int), rfl, rfl, SqT.of (s1 _ _ hga), rfl, (n : Int), 1, rfl, rfl, (n : Int) + 1, rfl, by omega, by omega, fun D nD => ?_⟩
    refine lc_range (lo := 0) (n := ((n : Int) + 1).toNat) (fun i H3 => Same H1 H3 ∧ H3 D = some (.lst (iv ((countsL E n).take i)))) ⟨same_new nD, upd_same⟩ ?_ ?_
    · rintro i H3 hi ⟨sm, hD⟩
      have hi' : i < n + 1 := by omega
      have s3 := s1.trans sm
      refine ⟨rfl, .ref ga, rfl, .int (0 + (i : Int)), rfl, .ref ga, n, i, gens, E, by rw [Int.zero_add]; rfl, hgrp0.evo (evo_of_same s3), hgood, hclo, by omega, fun H4 z s4 hz => ?_⟩
      obtain ⟨a, ws, rfl, ha, hw⟩ := hz
      have hwl : ws.length = (leasts E n i).length := Paired.length hw
      refine ⟨a, ws, rfl, .inr (SqT.of ha), _, s4 _ _ hD, ?_, same_put (sm.trans s4) nD, ?_⟩
      · rw [iv_len, List.length_take]
        exact small_lt (by omega)
      · have hc : (countsL E n)[i]? = some (leasts E n i).length := by
          unfold countsL
          rw [List.getElem?_map, List.getElem?_range hi']
          rfl
        rw [upd_same, List.take_add_one, hc, iv_append, hwl]
        rfl
    · rintro H3 ⟨sm, hD⟩
      have hl : (countsL E n).length = n + 1 := by
        unfold countsL
        rw [List.length_map, List.length_range]
      rw [List.take_of_length_le (by omega)] at hD
      refine ⟨D, _, rfl, .inl ⟨SqL.of hD, fun r nr => ?_⟩⟩
      exact q _ _ ((s1.trans sm).trans (same_new nr)) ⟨r, rfl, upd_same⟩
end
end KW
end
section
namespace KW
open PySem PySem.Spec PyProof.Rows L2 KM
/-! ### the row of draws -/
/-- all tracked objects stay but the one at r -/
def But1 (r : Addr) (H H' : Hp) : Prop := ∀ b o, b ≠ r → H b = some o → H' b = some o
theorem But1.refl (r : Addr) (H : Hp) : But1 r H H := fun _ _ _ e => e
theorem But1.trans {r : Addr} {H H1 H2 : Hp} (a : But1 r H H1) (b : But1 r H1 H2) : But1 r H H2 := fun c o h e => b c o h (a c o h e)
theorem But1.same {r : Addr} {H H1 H2 : Hp} (a : But1 r H H1) (b : Same H1 H2) : But1 r H H2 := fun c o h e => b c o (a c o h e)
theorem But1.put {r : Addr} {H : Hp} {o : HO} : But1 r H (upd H r o) := fun c u h e => by
  rw [upd_ne h]
  exact e
theorem but1_of_same {r : Addr} {H H' : Hp} (h : Same H H') : But1 r H H' := fun b o _ e => h b o e
def rowL (sc : Addr) (c1 c2 c3 : Int) : List V := [.ref sc, .int c1, .int c2, .int c3]
structure RowAt (K : PySem.W.Frag) (H : Hp) (r sc : Addr) (ns : List Int) : Prop where
  ex : ∃ c1 c2 c3 : Int, H r = some (.lst (rowL sc c1 c2 c3)) ∧ 0 ≤ c1 ∧ (0 ≤ c2 ∧ c2 < 2147483647) ∧ 0 ≤ c3
  sc : SqL K H sc (ns.map V.int)
  len : ns.length ≤ 63
theorem sqL_row {K : PySem.W.Frag} {H : Hp} {r sc : Addr} {ns : List Int} {c1 c2 c3 : Int} {o : HO} (h : SqL K H sc (ns.map V.int)) (hr : H r = some (.lst (rowL sc c1 c2 c3))) : SqL K (upd H r o) sc (ns.map V.int) := by
  rcases h with (h | ⟨u, h⟩) | h
  · refine .inl (.inl ?_)
    rw [upd_ne]
    · exact h
    · intro z
      rw [z, hr] at h
      have h2 : rowL sc c1 c2 c3 = ns.map V.int := HO.lst.inj (Option.some.inj h)
      cases ns with
      | nil => cases h2
      | cons a l => cases (List.cons.inj h2).1
  · refine .inl (.inr ⟨u, ?_⟩)
    rw [upd_ne (ne_of h hr (fun z => nomatch z))]
    exact h
  · exact .inr h
theorem RowAt.evo {K : PySem.W.Frag} {H H' : Hp} {r sc : Addr} {ns : List Int} (R : RowAt K H r sc ns) (h : Same H H') : RowAt K H' r sc ns :=
  ⟨let ⟨c1, c2, c3, h1, h2⟩ := R.ex; ⟨c1, c2, c3, h _ _ h1, h2⟩, h.seq R.sc, R.len⟩
theorem RowAt.lst {K : PySem.W.Frag} {H : Hp} {r sc : Addr} {ns : List Int} (R : RowAt K H r sc ns) : ∃ xs, H r = some (.lst xs) := let ⟨_, _, _, h, _⟩ := R.ex; ⟨_, h⟩
theorem RowAt.evoB {K : PySem.W.Frag} {H H' : Hp} {r sc : Addr} {ns : List Int} (R : RowAt K H r sc ns) (h : But1 r H H') : Evo H H' := fun b xs e => by
  obtain ⟨ys, hy⟩ := R.lst
  exact h b _ (ne_of e hy (fun z => nomatch z)) e
theorem RowAt.put_new {K : PySem.W.Frag} {H H3 : Hp} {r sc l : Addr} {ns : List Int} {ys : List V} {o : HO} (R : RowAt K H r sc ns) (R3 : RowAt K H3 r sc ns) (hl : H l = none) (hl3 : H3 l = some (.lst ys)) : RowAt K (upd H3 l o) r sc ns := by
  obtain ⟨xs, hx⟩ := R.lst
  have hrl : r ≠ l := ne_of_none hx hl
  refine ⟨?_, ?_, R.len⟩
  · obtain ⟨c1, c2, c3, h1, h2⟩ := R3.ex
    refine ⟨c1, c2, c3, ?_, h2⟩
    rw [upd_ne hrl]
    exact h1
  · rcases R.sc with h | h
    · have hs : sc ≠ l := by
        rcases h with h | ⟨u, h⟩
        · exact ne_of_none h hl
        · exact ne_of_none h hl
      rcases R3.sc with (h | ⟨u, h⟩) | h
      · refine .inl (.inl ?_)
        rw [upd_ne hs]
        exact h
      · refine .inl (.inr ⟨u, ?_⟩)
        rw [upd_ne hs]
        exact h
      · exact .inr h
    · exact .inr h
theorem but1_put_new {r l : Addr} {H H3 : Hp} {o : HO} (b : But1 r H H3) (hl : H l = none) : But1 r H (upd H3 l o) := fun c u h e => by
  rw [upd_ne (ne_of_none e hl)]
  exact b c u h e
theorem ixN_of {n j : Nat} {k : Int} (e : k = (j : Int)) (h : j < n) : ixN n k = some j := by
  rw [e]
  exact ixNat h
theorem rep_iv (n : Nat) : (List.replicate n [V.int 0]).flatten = iv (List.replicate n 0) := by
  induction n with
  | zero => rfl
  | succ n ih =>
    rw [List.replicate_succ, List.flatten_cons, ih, List.replicate_succ]
    rfl
section
variable {P : Program} {w : World} {K : PySem.W.Frag} {mg : Str → Option Value} {base : Heap}
def spTaken (K : PySem.W.Frag) : Sp := fun vs H Q _ => ∃ (r sc : Addr) (ns : List Int) (m : Nat), vs = [.ref r, .int (m : Int)] ∧ RowAt K H r sc ns ∧ 1 ≤ m ∧ m < 1000 ∧ ∀ H' (t : Nat), t < m → But1 r H H' → RowAt K H' r sc ns → Q (.int (t : Int)) H'
theorem mod_nat (i : Int) {m : Nat} (h : 1 ≤ m) : ∃ t : Nat, i % (m : Int) = (t : Int) ∧ t < m := by
  have h1 := Int.emod_nonneg i (show (m : Int) ≠ 0 by omega)
  have h2 := Int.emod_lt_of_pos i (show (0 : Int) < m by omega)
  exact ⟨(i % (m : Int)).toNat, by omega, by omega⟩
theorem ok_z_taken (Z : Defs K mg) : FnOk P w K mg base CX0 1 Z.z_taken.f Z.z_taken.fd ["_law_row", "_law_many"] (spTaken K) := by
  refine Z.z_taken.F.ok sc_z_taken (fun vs H Q E h => ?_) (fun cdv A outer s H vs Q E hr h => ?_)
  · obtain ⟨r, sc, ns, m, rfl, _⟩ := h
    rfl
  · obtain ⟨r, sc, ns, m, rfl, R, m1, m2, q⟩ := h
    have nd := sc_z_taken.nd
    obtain ⟨c1, c2, c3, hrow, g1, ⟨g2, g3⟩, g4⟩ := R.ex
    refine ⟨_, (pss_cons (ps_if (pt_cmpR op_gt (pe_ix ix_list (pv 0) pe_int (fun _ _ => rfl)) pe_int (nomark _))
        (pss_cons (ps_set (i := 2) nd rfl (.inl rfl) (pe_op op_mod (pe_callTy call_int1 (by rfl) Z.bare.int boot_int (pa_cons (pe_ix ix_list (pv 0) pe_int (fun _ _ => rfl)) pa_nil)) (pv 1)))
        (pss_cons (ps_asg (pe_op op_fdiv (pe_ix ix_list (pv 0) pe_int (fun _ _ => rfl)) (pv 1)) (pg_sub (pv 0) pe_int set_list))
        (pss_one (ps_ret (pv 2))))) pss_nil)
      (pss_cons (ps_asg (pe_op op_add (pe_ix ix_list (pv 0) pe_int (fun _ _ => rfl)) pe_int) (pg_sub (pv 0) pe_int set_list))
      (pss_cons (ps_if (pt_cmpR op_gt (pe_ix ix_list (pv 0) pe_int (fun _ _ => rfl)) (pe_callB call_len_seq (by rfl) Z.bare.len PySem.boot_len (pa_cons (pe_ix ix_list (pv 0) pe_int (fun _ _ => rfl)) pa_nil)) (nomark _))
        (pss_cons (ps_asg (pe_op op_mod (pe_callTy call_int1 (by rfl) Z.bare.int boot_int (pa_cons (pe_op op_add (pe_op op_mul (pe_ix ix_list (pv 0) pe_int (fun _ _ => rfl)) pe_int) pe_int) pa_nil)) pe_int) (pg_sub (pv 0) pe_int set_list))
        (pss_one (ps_ret (pe_op op_mod (pe_callTy call_int1 (by rfl) Z.bare.int boot_int (pa_cons (pe_op op_fdiv (pe_ix ix_list (pv 0) pe_int (fun _ _ => rfl)) pe_int) pa_nil)) (pv 1))))) pss_nil)
      (pss_cons (ps_set (i := 3) nd rfl (.inl rfl) (pe_ix ix_list (pe_ix ix_list (pv 0) pe_int (fun _ _ => rfl)) (pe_op op_sub (pe_ix ix_list (pv 0) pe_int (fun _ _ => rfl)) pe_int) (fun _ _ => rfl)))
      (pss_cons (ps_asg (pe_op op_mod (pe_callTy call_int1 (by rfl) Z.bare.int boot_int (pa_cons (pe_op op_add (pe_op op_add (pe_op op_mul (pe_ix ix_list (pv 0) pe_int (fun _ _ => rfl)) pe_int) (pv 3)) pe_int) pa_nil)) pe_int) (pg_sub (pv 0) pe_int set_list))
      (pss_cons (ps_if (pt_cmpR op_ge (pv 3) (pe_op op_pow pe_int pe_int) (nomark _))
        (pss_one (ps_asg (pe_op op_fdiv (pv 3) (pv 1)) (pg_sub (pv 0) pe_int set_list))) pss_nil)
      (pss_one (ps_ret (pe_op op_mod (pe_callTy call_int1 (by rfl) Z.bare.int boot_int (pa_cons (pv 3) pa_nil)) (pv 1)))))))))), ?_⟩
    have hL : SqL K H r (rowL sc c1 c2 c3) := SqL.of hrow
    refine ⟨.ref r, rfl, r, _, 3, .int c3, rfl, rfl, hL, rfl, c3, 0, rfl, rfl, _, rfl, ite2 (fun hc => ?_) (fun hc => ?_)⟩
    · -- a cell's rest
      refine ⟨.ref r, rfl, r, _, 3, .int c3, rfl, rfl, hL, rfl, .inl ⟨c3, rfl, .int (m : Int), rfl, c3, (m : Int), rfl, rfl, by omega, ?_⟩⟩
      refine ⟨.ref r, rfl, r, _, 3, .int c3, rfl, rfl, hL, rfl, .int (m : Int), rfl, c3, (m : Int), rfl, rfl, ⟨by omega, by omega⟩, .ref r, rfl, r, _, 3, 3, rfl, rfl, hrow, rfl, ?_⟩
      obtain ⟨t, et, ht⟩ := mod_nat c3 m1
      refine ⟨_, rfl, ?_⟩
      show Q (.int (c3 % (m : Int))) _
      rw [et]
      exact q _ t ht But1.put ⟨⟨c1, c2, c3 / (m : Int), upd_same, g1, ⟨g2, g3⟩, Int.ediv_nonneg g4 (by omega)⟩, sqL_row R.sc hrow, R.len⟩
    · -- row[1] = row[1] + 1
      refine ⟨.ref r, rfl, r, _, 1, .int c1, rfl, rfl, hL, rfl, c1, 1, rfl, rfl, .ref r, rfl, r, _, 1, 1, rfl, rfl, hrow, rfl, ?_⟩
      have hrow1 : (upd H r (.lst ((rowL sc c1 c2 c3).set 1 (.int (c1 + 1))))) r = some (.lst (rowL sc (c1 + 1) c2 c3)) := upd_same
      have hsc1 : SqL K (upd H r (.lst ((rowL sc c1 c2 c3).set 1 (.int (c1 + 1))))) sc (ns.map V.int) := sqL_row R.sc hrow
      have b1 : But1 r H (upd H r (.lst ((rowL sc c1 c2 c3).set 1 (.int (c1 + 1))))) := But1.put
      generalize upd H r (.lst ((rowL sc c1 c2 c3).set 1 (.int (c1 + 1)))) = H1 at hrow1 hsc1 b1
      have hL1 : SqL K H1 r (rowL sc (c1 + 1) c2 c3) := SqL.of hrow1
      refine ⟨.ref r, rfl, r, _, 1, .int (c1 + 1), rfl, rfl, hL1, rfl, .ref r, rfl, r, _, 0, .ref sc, rfl, rfl, hL1, rfl, sc, _, rfl, .inl hsc1, _, _, rfl, rfl, _, rfl, ite2 (fun hc2 => ?_) (fun hc2 => ?_)⟩
      · refine ⟨.ref r, rfl, r, _, 2, .int c2, rfl, rfl, hL1, rfl, c2, 48271, rfl, rfl, .inl ⟨by omega, by omega⟩, c2 * 48271, 11, rfl, rfl, .inl ⟨_, rfl, c2 * 48271 + 11, 2147483647, rfl, rfl, (show (0 : Int) < 2147483647 by decide), .ref r, rfl, r, _, 2, 2, rfl, rfl, hrow1, rfl, ?_⟩⟩
        have hrow2 : (upd H1 r (.lst ((rowL sc (c1 + 1) c2 c3).set 2 (.int ((c2 * 48271 + 11) % 2147483647))))) r = some (.lst (rowL sc (c1 + 1) ((c2 * 48271 + 11) % 2147483647) c3)) := upd_same
        refine ⟨.ref r, rfl, r, _, 2, .int ((c2 * 48271 + 11) % 2147483647), rfl, rfl, SqL.of hrow2, rfl, _, 7, rfl, rfl, ⟨by decide, by decide⟩, .inl ⟨_, rfl, .int (m : Int), rfl, _, (m : Int), rfl, rfl, by omega, ?_⟩⟩
        obtain ⟨t, et, ht⟩ := mod_nat ((c2 * 48271 + 11) % 2147483647 / 7) m1
        show Q (.int ((c2 * 48271 + 11) % 2147483647 / 7 % (m : Int))) _
        rw [et]
        exact q _ t ht (b1.trans But1.put) ⟨⟨_, _, _, hrow2, by omega, by omega, g4⟩, sqL_row hsc1 hrow1, R.len⟩
      · have hle : c1 + 1 ≤ (ns.length : Int) := by
          have := of_decide_eq_false (Bool.eq_false_iff.mpr hc2)
          rw [List.length_map] at this
          omega
        obtain ⟨cell, hcell⟩ : ∃ c, ns[c1.toNat]? = some c := ⟨ns[c1.toNat]'(by omega), List.getElem?_eq_getElem _⟩
        have hcell' : (ns.map V.int)[c1.toNat]? = some (.int cell) := by
          rw [List.getElem?_map, hcell]
          rfl
        refine ⟨.ref r, rfl, r, _, 0, .ref sc, rfl, rfl, hL1, rfl, .ref r, rfl, r, _, 1, .int (c1 + 1), rfl, rfl, hL1, rfl, c1 + 1, 1, rfl, rfl, sc, _, c1 + 1 - 1, .int cell, rfl, rfl, hsc1, at_of (by omega) hcell', ?_⟩
        -- row[2] = int(row[2] * 48271 + cell + 11) % 2147483647
        refine ⟨.ref r, rfl, r, _, 2, .int c2, rfl, rfl, hL1, rfl, c2, 48271, rfl, rfl, .inl ⟨by omega, by omega⟩, .int cell, rfl, c2 * 48271, cell, rfl, rfl, c2 * 48271 + cell, 11, rfl, rfl, .inl ⟨_, rfl, c2 * 48271 + cell + 11, 2147483647, rfl, rfl, (show (0 : Int) < 2147483647 by decide), .ref r, rfl, r, _, 2, 2, rfl, rfl, hrow1, rfl, ?_⟩⟩
        have hrow2 : (upd H1 r (.lst ((rowL sc (c1 + 1) c2 c3).set 2 (.int ((c2 * 48271 + cell + 11) % 2147483647))))) r = some (.lst (rowL sc (c1 + 1) ((c2 * 48271 + cell + 11) % 2147483647) c3)) := upd_same
        have hsc2 : SqL K (upd H1 r (.lst ((rowL sc (c1 + 1) c2 c3).set 2 (.int ((c2 * 48271 + cell + 11) % 2147483647))))) sc (ns.map V.int) := sqL_row hsc1 hrow1
        have b2 : But1 r H (upd H1 r (.lst ((rowL sc (c1 + 1) c2 c3).set 2 (.int ((c2 * 48271 + cell + 11) % 2147483647))))) := b1.trans But1.put
        generalize upd H1 r (.lst ((rowL sc (c1 + 1) c2 c3).set 2 (.int ((c2 * 48271 + cell + 11) % 2147483647)))) = H2 at hrow2 hsc2 b2
        have hm := Int.emod_nonneg (c2 * 48271 + cell + 11) (show (2147483647 : Int) ≠ 0 by decide)
        have hm2 := Int.emod_lt_of_pos (c2 * 48271 + cell + 11) (show (0 : Int) < 2147483647 by decide)
        obtain ⟨t, et, ht⟩ := mod_nat cell m1
        refine ⟨.int cell, rfl, 10, 18, rfl, rfl, ⟨by decide, by decide, by decide⟩, cell, (10 : Int) ^ (18 : Int).toNat, rfl, rfl, _, rfl, ite2 (fun hc3 => ?_) (fun hc3 => ?_)⟩
        · have hbig : (10 : Int) ^ (18 : Int).toNat ≤ cell := of_decide_eq_true hc3
          have h10 : (0 : Int) ≤ (10 : Int) ^ (18 : Int).toNat := by decide
          refine ⟨.int cell, rfl, .int (m : Int), rfl, cell, (m : Int), rfl, rfl, ⟨by omega, by omega⟩, .ref r, rfl, r, _, 3, 3, rfl, rfl, hrow2, rfl, ?_⟩
          refine ⟨.int cell, rfl, .inl ⟨cell, rfl, .int (m : Int), rfl, cell, (m : Int), rfl, rfl, by omega, ?_⟩⟩
          show Q (.int (cell % (m : Int))) _
          rw [et]
          exact q _ t ht (b2.trans But1.put) ⟨⟨_, _, _, upd_same, by omega, ⟨hm, hm2⟩, Int.ediv_nonneg (by omega) (by omega)⟩, sqL_row hsc2 hrow2, R.len⟩
        · refine ⟨.int cell, rfl, .inl ⟨cell, rfl, .int (m : Int), rfl, cell, (m : Int), rfl, rfl, by omega, ?_⟩⟩
          show Q (.int (cell % (m : Int))) _
          rw [et]
          exact q _ t ht b2 ⟨⟨_, _, _, hrow2, by omega, ⟨hm, hm2⟩, g4⟩, hsc2, R.len⟩
/-- draw one of some things -/
def spPick (K : PySem.W.Frag) : Sp := fun vs H Q _ => ∃ (r sc l : Addr) (ns : List Int) (xs : List V), vs = [.ref r, .ref l] ∧ RowAt K H r sc ns ∧ H l = some (.lst xs) ∧ l ≠ r ∧ 1 ≤ xs.length ∧ xs.length < 1000 ∧
  ∀ H' (i : Nat) v, xs[i]? = some v → But1 r H H' → RowAt K H' r sc ns → Q v H'
theorem ok_z_pick (Z : Defs K mg) : FnOk P w K mg base CX0 2 Z.z_pick.f Z.z_pick.fd ["_law_row", "_law_things"] (spPick K) := by
  have G_z_taken := ok_z_taken (P := P) (w := w) (base := base) Z
  refine Z.z_pick.F.ok sc_z_pick (fun vs H Q E h => ?_) (fun cdv A outer s H vs Q E hr h => ?_)
  · obtain ⟨r, sc, l, ns, xs, rfl, _⟩ := h
    rfl
  · obtain ⟨r, sc, l, ns, xs, rfl, R, hl, hne, h1, h2, q⟩ := h
    have nd := sc_z_pick.nd
    refine ⟨_, (pss_one (ps_ret (pe_ix ix_list (pv 1) (pe_call G_z_taken (hr.mono (by decide)) (by rfl) Z.z_taken.g Z.z_taken.F.kp Z.z_taken.b .nil pass0 (pa_cons (pv 0) (pa_cons (pe_callB call_len_seq (by rfl) Z.bare.len PySem.boot_len (pa_cons (pv 1) pa_nil)) pa_nil))) (fun _ _ => rfl)))), ?_⟩
    refine ⟨.ref l, rfl, .ref r, rfl, .ref l, rfl, l, xs, rfl, .inl (SqL.of hl), r, sc, ns, xs.length, rfl, R, h1, h2, fun H' t ht b R' => ?_⟩
    exact ⟨l, xs, (t : Int), xs[t], rfl, rfl, SqL.of (b _ _ hne hl), atI_nat (List.getElem?_eq_getElem ht), q _ t _ (List.getElem?_eq_getElem ht) b R'⟩
/-- draw a permutation -/
def spPerm (K : PySem.W.Frag) : Sp := fun vs H Q _ => ∃ (r sc : Addr) (ns : List Int) (n : Nat), vs = [.ref r, .int (n : Int)] ∧ RowAt K H r sc ns ∧ 1 ≤ n ∧ n ≤ 7 ∧ ∀ H' z p, But1 r H H' → RowAt K H' r sc ns → IsPerm n p → Tp H' z p → Q z H'
theorem rgV_iv (n : Nat) : rgV 0 (n : Int) = iv (List.range n) := by
  unfold rgV iv
  rw [List.map_map]
  have : ((n : Int) - 0).toNat = n := by omega
  rw [this]
  refine List.map_congr_left fun i _ => ?_
  show V.int (0 + (i : Int)) = V.int (i : Int)
  rw [Int.zero_add]
theorem ok_z_perm (Z : Defs K mg) : FnOk P w K mg base CX0 2 Z.z_perm.f Z.z_perm.fd ["_law_row", "_law_degree"] (spPerm K) := by
  have G_z_taken := ok_z_taken (P := P) (w := w) (base := base) Z
  refine Z.z_perm.F.ok sc_z_perm (fun vs H Q E h => ?_) (fun cdv A outer s H vs Q E hr h => ?_)
  · obtain ⟨r, sc, ns, n, rfl, _⟩ := h
    rfl
  · obtain ⟨r, sc, ns, n, rfl, R, n1, n2, q⟩ := h
    have nd := sc_z_perm.nd
    refine ⟨_, (pss_cons (ps_set (i := 2) nd rfl (.inl rfl) (pe_listRg rfl (by rfl) Z.bare.list (prg_1 (by rfl) Z.bare.range (pv 1))))
      (pss_cons (ps_for PassesOwn.never rfl (pi_range1 (by rfl) Z.bare.range (pa_cons (pe_op op_sub (pv 1) pe_int) pa_nil)) (pg_name (i := 3) nd rfl (.inl rfl))
        (pss_cons (ps_set (i := 4) nd rfl (.inl rfl) (pe_op op_add (pv 3) (pe_call G_z_taken (hr.mono (by decide)) (by rfl) Z.z_taken.g Z.z_taken.F.kp Z.z_taken.b .nil pass0 (pa_cons (pv 0) (pa_cons (pe_op op_sub (pv 1) (pv 3)) pa_nil)))))
        (pss_one (ps_asg (pe_tup (pa_cons (pe_ix ix_list (pv 2) (pv 4) (fun _ _ => rfl)) (pa_cons (pe_ix ix_list (pv 2) (pv 3) (fun _ _ => rfl)) pa_nil))) (pg_tup rfl (pgs_cons (pg_sub (pv 2) (pv 3) set_list) (pgs_cons (pg_sub (pv 2) (pv 4) set_list) pgs_nil)))))))
      (pss_one (ps_ret (pe_callTy call_tuple_of (by rfl) Z.bare.tuple boot_tuple (pa_cons (pv 2) pa_nil)))))), ?_⟩
    obtain ⟨rxs, hrx⟩ := R.lst
    refine ⟨.int (n : Int), rfl, (n : Int), rfl, RgOk.of_le (by omega) (by omega) (by omega) (by omega), fun l nl => ?_⟩
    have hrl : r ≠ l := ne_of_none hrx nl
    rw [rgV_iv]
    have s1 : Same H (upd H l (.lst (iv (List.range n)))) := same_new nl
    refine ⟨.int (n : Int), rfl, (n : Int), 1, rfl, rfl, (n : Int) - 1, rfl, by omega, by omega, ?_⟩
    refine for_range (lo := 0) (n := ((n : Int) - 1).toNat) (fun i σ H3 => ∃ (y3 y4 : Option V) (p : List Nat), σ = [some (.ref r), some (.int (n : Int)), some (.ref l), y3, y4] ∧ But1 r H H3 ∧ RowAt K H3 r sc ns ∧ H3 l = some (.lst (iv p)) ∧ IsPerm n p) ?_ ?_ ?_
    · exact ⟨none, none, List.range n, rfl, but1_of_same s1, R.evo s1, upd_same, isPerm_unit n⟩
    · rintro i σ H3 hi ⟨y3, y4, p, rfl, b3, R3, hl3, hp⟩
      have hin : i < n := by omega
      -- other = at + taken(row, degree - at)
      refine ⟨.int (0 + (i : Int)), rfl, .ref r, rfl, .int (n : Int), rfl, .int (0 + (i : Int)), rfl, (n : Int), 0 + (i : Int), rfl, rfl, r, sc, ns, n - i, ?_, R3, by omega, by omega, fun H4 t ht b4 R4 => ?_⟩
      · show [V.ref r, V.int ((n : Int) - (0 + (i : Int)))] = _
        rw [show (n : Int) - (0 + (i : Int)) = ((n - i : Nat) : Int) by omega]
      refine ⟨0 + (i : Int), (t : Int), rfl, rfl, ?_⟩
      have hl4 := b4 _ _ (Ne.symm hrl) hl3
      have hit : i + t < n := by omega
      have hpl := hp.len
      -- found[at], found[other] = found[other], found[at]
      refine ⟨.ref l, rfl, .int (0 + (i : Int) + (t : Int)), rfl, l, iv p, 0 + (i : Int) + (t : Int), .int (app p (i + t) : Int), rfl, rfl, SqL.of hl4, at_of (j := i + t) (by omega) (iv_app (by omega)), ?_⟩
      refine ⟨.ref l, rfl, .int (0 + (i : Int)), rfl, l, iv p, 0 + (i : Int), .int (app p i : Int), rfl, rfl, SqL.of hl4, at_of (j := i) (by omega) (iv_app (by omega)), small_size (by simp), fun T nT => ?_⟩
      have s5 : Same H4 (upd H4 T (.tup [.int (app p (i + t) : Int), .int (app p i : Int)])) := same_new nT
      have hl5 := s5 _ _ hl4
      refine ⟨T, _, rfl, SqT.of upd_same, rfl, .int (app p (i + t) : Int), _, rfl, ?_⟩
      refine ⟨.ref l, rfl, .int (0 + (i : Int)), rfl, l, iv p, 0 + (i : Int), i, rfl, rfl, hl5, ixN_of (by omega) (by rw [iv_len]; omega), .int (app p i : Int), [], rfl, ?_⟩
      refine ⟨.ref l, rfl, .int (0 + (i : Int) + (t : Int)), rfl, l, _, 0 + (i : Int) + (t : Int), i + t, rfl, rfl, upd_same, ixN_of (by omega) (by rw [List.length_set, iv_len]; omega), rfl, ?_⟩
      have b5 : But1 r H (upd H4 T (.tup [.int (app p (i + t) : Int), .int (app p i : Int)])) := (b3.trans b4).same s5
      have R5 := R4.evo s5
      refine ⟨_, _, (p.set i (app p (i + t))).set (i + t) (app p i), rfl, but1_put_new (but1_put_new b5 nl) nl, R.put_new (R.put_new R5 nl hl5) nl upd_same, ?_, swap_isPerm hp hin hit⟩
      rw [upd_same, iv_set, iv_set]
    · rintro σ H3 ⟨y3, y4, p, rfl, b3, R3, hl3, hp⟩
      refine ⟨.ref l, rfl, l, _, rfl, .inl ⟨SqL.of hl3, fun z nz => ?_⟩⟩
      have s4 : Same H3 (upd H3 z (.tup (iv p))) := same_new nz
      exact q _ _ p (b3.same s4) (R3.evo s4) hp ⟨z, rfl, upd_same⟩
def spInv : Sp := fun vs H Q _ => ∃ (n : Nat) (p : List Nat) (v : V), vs = [v] ∧ Tp H v p ∧ IsPerm n p ∧ n ≤ 12 ∧ ∀ H' z, Same H H' → Tp H' z (inv p) → Q z H'
theorem ok_z_inv (Z : Defs K mg) : FnOk P w K mg base CX0 1 Z.z_inv.f Z.z_inv.fd ["_law_p"] spInv := by
  refine Z.z_inv.F.ok sc_z_inv (fun vs H Q E h => ?_) (fun cdv A outer s H vs Q E hr h => ?_)
  · obtain ⟨n, p, v, rfl, _⟩ := h
    rfl
  · obtain ⟨n, p, v, rfl, ⟨a, rfl, ha⟩, hp, hn, q⟩ := h
    have nd := sc_z_inv.nd
    refine ⟨_, (pss_cons (ps_set (i := 1) nd rfl (.inl rfl) (pe_op op_rep (pe_lst (pa_cons pe_int pa_nil)) (pe_callB call_len_seq (by rfl) Z.bare.len PySem.boot_len (pa_cons (pv 0) pa_nil))))
      (pss_cons (ps_for PassesOwn.never rfl (pi_range1 (by rfl) Z.bare.range (pa_cons (pe_callB call_len_seq (by rfl) Z.bare.len PySem.boot_len (pa_cons (pv 0) pa_nil)) pa_nil)) (pg_name (i := 2) nd rfl (.inl rfl))
        (pss_one (ps_asg (pv 2) (pg_sub (pv 1) (pe_ix ix_tup (pv 0) (pv 2) (fun _ _ => rfl)) set_list))))
      (pss_one (ps_ret (pe_callTy call_tuple_of (by rfl) Z.bare.tuple boot_tuple (pa_cons (pv 1) pa_nil)))))), ?_⟩
    have hlen : (iv p).length = n := by rw [iv_len, hp.len]
    refine ⟨small_size (by simp), fun l0 n0 => ⟨.ref a, rfl, a, _, rfl, .inr (SqT.of (same_new n0 _ _ ha)), l0, _, _, rfl, rfl, upd_same, by omega, by omega, ?_, fun l nl => ?_⟩⟩
    · rw [Int.toNat_natCast, hlen]
      exact small_size (by show 1 * n ≤ 100000; omega)
    have s1 : Same H (upd H l0 (.lst [.int 0])) := same_new n0
    have hl0 : H l = none := s1.free nl
    rw [Int.toNat_natCast, hlen, rep_iv]
    have s2 : Same H (upd (upd H l0 (.lst [.int 0])) l (.lst (iv (List.replicate n 0)))) := s1.trans (same_new nl)
    refine ⟨.ref a, rfl, a, _, rfl, .inr (SqT.of (s2 _ _ ha)), ((iv p).length : Nat), rfl, by omega, by omega, ?_⟩
    refine for_range (lo := 0) (n := (((iv p).length : Nat) : Int).toNat) (fun i σ H3 => ∃ y2, σ = [some (.ref a), some (.ref l), y2] ∧ Same H H3 ∧ H3 l = some (.lst (iv (invN p i)))) ?_ ?_ ?_
    · refine ⟨none, rfl, s2, ?_⟩
      rw [upd_same]
      show _ = some (HO.lst (iv (List.replicate p.length 0)))
      rw [hp.len]
    · rintro i σ H3 hi ⟨y2, rfl, sm, hl⟩
      have hin : i < n := by omega
      refine ⟨.int (0 + (i : Int)), rfl, .ref l, rfl, .ref a, rfl, .int (0 + (i : Int)), rfl, a, _, 0 + (i : Int), .int (app p i : Int), rfl, rfl, SqT.of (sm _ _ ha), at_of (j := i) (by omega) (iv_app (by rw [hp.len]; omega)), ?_⟩
      refine ⟨l, _, (app p i : Int), app p i, rfl, rfl, hl, ixN_of rfl (by rw [iv_len, invN_len, hp.len]; exact hp.lt hin), ?_⟩
      refine ⟨_, rfl, same_put sm hl0, ?_⟩
      rw [upd_same, Int.zero_add, iv_set]
      rfl
    · rintro σ H3 ⟨y2, rfl, sm, hl⟩
      have e : invN p (((iv p).length : Nat) : Int).toNat = inv p := by
        rw [Int.toNat_natCast, iv_len]
        rfl
      rw [e] at hl
      refine ⟨.ref l, rfl, l, _, rfl, .inl ⟨SqL.of hl, fun z nz => ?_⟩⟩
      exact q _ _ (sm.trans (same_new nz)) ⟨z, rfl, upd_same⟩
def spConj : Sp := fun vs H Q _ => ∃ (n : Nat) (p g : List Nat) (v u : V), vs = [v, u] ∧ Tp H v p ∧ Tp H u g ∧ IsPerm n p ∧ IsPerm n g ∧ n ≤ 12 ∧ ∀ H' z, Same H H' → Tp H' z (KM.conj p g) → Q z H'
theorem ok_z_conj (Z : Defs K mg) : FnOk P w K mg base CX0 2 Z.z_conj.f Z.z_conj.fd ["_law_p", "_law_g"] spConj := by
  have G_z_mul := ok_z_mul (P := P) (w := w) (base := base) Z
  have G_z_inv := ok_z_inv (P := P) (w := w) (base := base) Z
  refine Z.z_conj.F.ok sc_z_conj (fun vs H Q E h => ?_) (fun cdv A outer s H vs Q E hr h => ?_)
  · obtain ⟨n, p, g, v, u, rfl, _⟩ := h
    rfl
  · obtain ⟨n, p, g, v, u, rfl, hv, hu, hp, hg, hn, q⟩ := h
    have nd := sc_z_conj.nd
    refine ⟨_, (pss_one (ps_ret (pe_call G_z_mul (hr.mono (by decide)) (by rfl) Z.z_mul.g Z.z_mul.F.kp Z.z_mul.b .nil pass0 (pa_cons (pe_call G_z_mul (hr.mono (by decide)) (by rfl) Z.z_mul.g Z.z_mul.F.kp Z.z_mul.b .nil pass0 (pa_cons (pe_call G_z_inv (hr.mono (by decide)) (by rfl) Z.z_inv.g Z.z_inv.F.kp Z.z_inv.b .nil pass0 (pa_cons (pv 1) pa_nil)) (pa_cons (pv 0) pa_nil))) (pa_cons (pv 1) pa_nil))))), ?_⟩
    have hi := inv_isPerm hg
    refine ⟨u, rfl, n, g, u, rfl, hu, hg, hn, fun H1 z1 s1 t1 => ⟨v, rfl, inv g, p, z1, v, rfl, t1, hv.evo (evo_of_same s1), fun x hx => by rw [hp.len]; exact hi.bd x hx, by rw [hi.len]; exact hn, fun H2 z2 s2 t2 => ?_⟩⟩
    have hm := hi.mul hp
    exact ⟨u, rfl, KM.mul (inv g) p, g, z2, u, rfl, t2, hu.evo (evo_of_same (s1.trans s2)), fun x hx => by rw [hg.len]; exact hm.bd x hx, by rw [hm.len]; exact hn, fun H3 z3 s3 t3 => q H3 z3 ((s1.trans s2).trans s3) t3⟩
def spUnit : Sp := fun vs H Q _ => ∃ n : Nat, vs = [.int (n : Int)] ∧ n ≤ 12 ∧ ∀ H' z, Same H H' → Tp H' z (KM.unit n) → Q z H'
theorem ok_z_unit (Z : Defs K mg) : FnOk P w K mg base CX0 1 Z.z_unit.f Z.z_unit.fd ["_law_degree"] spUnit := by
  refine Z.z_unit.F.ok sc_z_unit (fun vs H Q E h => ?_) (fun cdv A outer s H vs Q E hr h => ?_)
  · obtain ⟨n, rfl, _⟩ := h
    rfl
  · obtain ⟨n, rfl, hn, q⟩ := h
    have nd := sc_z_unit.nd
    refine ⟨_, (pss_one (ps_ret (pe_tupRg rfl (by rfl) Z.bare.tuple (prg_1 (by rfl) Z.bare.range (pv 0))))), ?_⟩
    refine ⟨.int (n : Int), rfl, (n : Int), rfl, RgOk.of_le (by omega) (by omega) (by omega) (by omega), fun l nl => ?_⟩
    rw [rgV_iv]
    exact q _ _ (same_new nl) ⟨l, rfl, upd_same⟩
end
end KW
end
section
namespace KW
open PySem PySem.Spec PyProof.Rows L2 KM
/-! ### written data -/
abbrev Row9 := Nat × Nat × List (List Nat)
def all9 {α : Type} (f : Expr → Option α) : List Expr → Option (List α)
  | [] => some []
  | e :: es => match f e, all9 f es with
    | some a, some l => some (a :: l)
    | _, _ => none
def cN : Expr → Option Nat
  | .Constant (.int (.ofNat n)) _ _ => some n
  | _ => none
def cT1 : Expr → Option (List Nat)
  | .Tuple es _ _ => if es.length ≤ 100 then all9 cN es else none
  | _ => none
def cT2 : Expr → Option (List (List Nat))
  | .Tuple es _ _ => if es.length ≤ 100 then all9 cT1 es else none
  | _ => none
def cR : Expr → Option Row9
  | .Tuple [a, b, c] _ _ => match cN a, cN b, cT2 c with
    | some o, some d, some g => some (o, d, g)
    | _, _, _ => none
  | _ => none
theorem all9_cons {α : Type} {f : Expr → Option α} {e : Expr} {es : List Expr} {l : List α} (h : all9 f (e :: es) = some l) : ∃ a r, f e = some a ∧ all9 f es = some r ∧ l = a :: r := by
  unfold all9 at h
  cases h1 : f e with
  | none => rw [h1] at h; cases h
  | some a =>
    cases h2 : all9 f es with
    | none => rw [h1, h2] at h; cases h
    | some r =>
      rw [h1, h2] at h
      cases h
      exact ⟨a, r, rfl, rfl, rfl⟩
/-- a row of the table of groups, at v -/
def KnT (H : Hp) (v : V) (t : Row9) : Prop := ∃ a g, v = .ref a ∧ H a = some (.tup [.int (t.1 : Int), .int (t.2.1 : Int), g]) ∧ Tts H g t.2.2
theorem KnT.evo {H H' : Hp} {v : V} {t : Row9} (e : Evo H H') (h : KnT H v t) : KnT H' v t := let ⟨a, g, h1, h2, h3⟩ := h; ⟨a, g, h1, e _ _ h2, h3.evo e⟩
def LstK (H : Hp) (l : Addr) (rows : List Row9) : Prop := ∃ vs, H l = some (.lst vs) ∧ Paired (KnT H) vs rows
section
variable {X : Cx}
theorem PE.weak {e : Expr} {t t' : TE} (h : PE X e t) (w : ∀ σ H Q, t' σ H Q → t σ H Q) : PE X e t' := ⟨fun pins s σ H Q I q => h.run pins s σ H Q I (w σ H Q q)⟩
theorem PA.weak {es : List Expr} {t t' : TA} (h : PA X es t) (w : ∀ σ H Q, t' σ H Q → t σ H Q) : PA X es t' := ⟨fun pos pins s σ H Q I q => h.run pos pins s σ H Q I (w σ H Q q)⟩
theorem pe_N {e : Expr} {n : Nat} (h : cN e = some n) : PE X e (tC (.int (n : Int))) := by
  unfold cN at h
  split at h
  · cases h
    exact pe_int
  · cases h
theorem star_of {e : Expr} {es : List Expr} {env : Env} (h : ∀ v p, e ≠ .Starred v p) : starEach (e :: es) env = (false, eval e env) :: starEach es env := by
  cases e with
  | Starred v p => exact absurd rfl (h v p)
  | _ => rfl
theorem cN_star {e : Expr} {n : Nat} (h : cN e = some n) : ∀ v p, e ≠ .Starred v p := fun v p z => by
  rw [z] at h
  cases h
theorem cT1_star {e : Expr} {n : List Nat} (h : cT1 e = some n) : ∀ v p, e ≠ .Starred v p := fun v p z => by
  rw [z] at h
  cases h
theorem cT2_star {e : Expr} {n : List (List Nat)} (h : cT2 e = some n) : ∀ v p, e ≠ .Starred v p := fun v p z => by
  rw [z] at h
  cases h
theorem cR_star {e : Expr} {n : Row9} (h : cR e = some n) : ∀ v p, e ≠ .Starred v p := fun v p z => by
  rw [z] at h
  cases h
theorem pa_Ns : ∀ {es : List Expr} {S : List Nat}, all9 cN es = some S → PA X es (fun _ H Q => Q (iv S) H)
  | [], S, h => by
    cases h
    exact pa_nil
  | e :: es, S, h => by
    obtain ⟨a, r, h1, h2, rfl⟩ := all9_cons h
    exact PA.weak (pa_cons (pe_N h1) (pa_Ns h2) (star_of (cN_star h1))) fun σ H Q q => q
def tT1 (S : List Nat) : TE := fun _ H Q => ∀ H' v, Same H H' → Tp H' v S → Q v H'
theorem all9_len {α : Type} {f : Expr → Option α} : ∀ {es : List Expr} {l : List α}, all9 f es = some l → l.length = es.length
  | [], l, h => by
    cases h
    rfl
  | e :: es, l, h => by
    obtain ⟨a, r, _, h2, rfl⟩ := all9_cons h
    rw [List.length_cons, List.length_cons, all9_len h2]
theorem pe_T1 {e : Expr} {S : List Nat} (h : cT1 e = some S) : PE X e (tT1 S) := by
  unfold cT1 at h
  split at h
  · rename_i es k pos
    split at h
    · rename_i hl
      refine PE.weak (pe_tup (pa_Ns h)) fun σ H Q q => ⟨?_, fun p np => q _ _ (same_new np) ⟨p, rfl, upd_same⟩⟩
      rw [iv_len, all9_len h]
      exact small_size (by omega)
    · cases h
  · cases h
theorem pa_T1s : ∀ {es : List Expr} {Ss : List (List Nat)}, all9 cT1 es = some Ss → PA X es (fun _ H Q => ∀ H' vs, Same H H' → Tps H' vs Ss → Q vs H')
  | [], Ss, h => by
    cases h
    exact PA.weak pa_nil fun σ H Q q => q H [] (Same.refl H) .nil
  | e :: es, Ss, h => by
    obtain ⟨a, r, h1, h2, rfl⟩ := all9_cons h
    refine PA.weak (pa_cons (pe_T1 h1) (pa_T1s h2) (star_of (cT1_star h1))) fun σ H Q q => ?_
    intro H1 v s1 t1 H2 vs s2 t2
    exact q H2 (v :: vs) (s1.trans s2) (.cons (t1.evo (evo_of_same s2)) t2)
def tT2 (Ss : List (List Nat)) : TE := fun _ H Q => ∀ H' v, Same H H' → Tts H' v Ss → Q v H'
theorem pe_T2 {e : Expr} {Ss : List (List Nat)} (h : cT2 e = some Ss) : PE X e (tT2 Ss) := by
  unfold cT2 at h
  split at h
  · rename_i es k pos
    split at h
    · rename_i hl
      refine PE.weak (pe_tup (pa_T1s h)) fun σ H Q q => ?_
      intro H1 vs s1 t1
      refine ⟨?_, fun p np => q _ _ (s1.trans (same_new np)) ⟨p, vs, rfl, upd_same, t1.evo (evo_new np)⟩⟩
      have : vs.length = Ss.length := Paired.length t1
      rw [this, all9_len h]
      exact small_size (by omega)
    · cases h
  · cases h
def tR9 (t : Row9) : TE := fun _ H Q => ∀ H' v, Same H H' → KnT H' v t → Q v H'
theorem pe_R {e : Expr} {t : Row9} (h : cR e = some t) : PE X e (tR9 t) := by
  unfold cR at h
  split at h
  · rename_i a b c k pos
    cases h1 : cN a with
    | none => rw [h1] at h; cases h
    | some o =>
      cases h2 : cN b with
      | none => rw [h1, h2] at h; cases h
      | some d =>
        cases h3 : cT2 c with
        | none => rw [h1, h2, h3] at h; cases h
        | some g =>
          rw [h1, h2, h3] at h
          cases h
          refine PE.weak (pe_tup (pa_cons (pe_N h1) (pa_cons (pe_N h2) (pa_cons (pe_T2 h3) pa_nil (star_of (cT2_star h3))) (star_of (cN_star h2))) (star_of (cN_star h1)))) fun σ H Q q => ?_
          intro H1 v s1 t1
          exact ⟨small_size (by simp), fun p np => q _ _ (s1.trans (same_new np)) ⟨p, v, rfl, upd_same, t1.evo (evo_new np)⟩⟩
  · cases h
theorem pa_Rs : ∀ {es : List Expr} {rs : List Row9}, all9 cR es = some rs → PA X es (fun _ H Q => ∀ H' vs, Same H H' → Paired (KnT H') vs rs → Q vs H')
  | [], rs, h => by
    cases h
    exact PA.weak pa_nil fun σ H Q q => q H [] (Same.refl H) .nil
  | e :: es, rs, h => by
    obtain ⟨a, r, h1, h2, rfl⟩ := all9_cons h
    refine PA.weak (pa_cons (pe_R h1) (pa_Rs h2) (star_of (cR_star h1))) fun σ H Q q => ?_
    intro H1 v s1 t1 H2 vs s2 t2
    exact q H2 (v :: vs) (s1.trans s2) (.cons (t1.evo (evo_of_same s2)) t2)
/-- a list of rows, written -/
def tRows (rs : List Row9) : TE := fun _ H Q => ∀ H' r, Same H H' → H r = none → LstK H' r rs → Q (.ref r) H'
theorem pe_rows {es : List Expr} {rs : List Row9} {pos : Pos} (h : all9 cR es = some rs) (hl : rs.length ≤ 100) : PE X (.List es pos) (tRows rs) := by
  refine PE.weak (pe_lst (pa_Rs h)) fun σ H Q q => ?_
  intro H1 vs s1 t1
  have hvl : vs.length = rs.length := Paired.length t1
  exact ⟨small_size (by omega), fun p np => q _ _ (s1.trans (same_new np)) (s1.free np) ⟨vs, upd_same, Paired.mapP t1 fun _ _ z => z.evo (evo_new np)⟩⟩
/-- found + [rows] -/
def tGrow (i : Nat) (rs : List Row9) : TE := fun σ H Q => ∃ l rows, σ[i]? = some (some (.ref l)) ∧ LstK H l rows ∧ rows.length + rs.length ≤ 1000 ∧ ∀ H' r, Same H H' → H r = none → LstK H' r (rows ++ rs) → Q (.ref r) H'
theorem pe_grow {i : Nat} {x : Str} {px : Pos} {es : List Expr} {rs : List Row9} {pos pos2 : Pos} (hp : PE X (.Name x px) (tVar i)) (h : all9 cR es = some rs) (hl : rs.length ≤ 100) : PE X (.BinOp (.Name x px) .Add (.List es pos) pos2) (tGrow i rs) := by
  refine PE.weak (pe_op op_cat hp (pe_rows h hl)) fun σ H Q q => ?_
  obtain ⟨l, rows, hs, ⟨vs, hv, hp⟩, hlen, q⟩ := q
  refine ⟨.ref l, hs, fun H1 r s1 nr ⟨ws, hw, hp2⟩ => ⟨l, r, vs, ws, rfl, rfl, s1 _ _ hv, hw, ?_, fun z nz => ?_⟩⟩
  · have a : vs.length = rows.length := Paired.length hp
    have b : ws.length = rs.length := Paired.length hp2
    exact small_size (by omega)
  · refine q _ _ (s1.trans (same_new nz)) (s1.free nz) ⟨vs ++ ws, upd_same, ?_⟩
    have e1 := evo_of_same s1
    have e2 : Evo H1 (upd H1 z (.lst (vs ++ ws))) := evo_new nz
    exact Paired.app2 (Paired.mapP hp fun _ _ z => (z.evo e1).evo e2) (Paired.mapP hp2 fun _ _ z => z.evo e2)
end
def ck1 : List Row9 := [(1, 3, []), (1, 1, []), (2, 2, [[1, 0]]), (3, 3, [[1, 2, 0]]), (4, 4, [[1, 2, 3, 0]])]
def ck2 : List Row9 := [(4, 4, [[1, 0, 3, 2], [2, 3, 0, 1]]), (4, 4, [[1, 0, 2, 3], [0, 1, 3, 2]])]
def ck3 : List Row9 := [(2, 4, [[1, 0, 3, 2]]), (4, 6, [[1, 2, 3, 0, 5, 4]]), (5, 5, [[1, 2, 3, 4, 0]])]
def ck4 : List Row9 := [(6, 3, [[1, 2, 0], [1, 0, 2]]), (6, 5, [[1, 2, 0, 4, 3]])]
def ck5 : List Row9 := [(6, 5, [[1, 2, 0, 3, 4], [1, 0, 2, 4, 3]])]
def ck6 : List Row9 := [(6, 6, [[1, 2, 0, 4, 5, 3], [3, 5, 4, 0, 2, 1]])]
def ck7 : List Row9 := [(8, 4, [[1, 2, 3, 0], [0, 3, 2, 1]]), (9, 6, [[1, 2, 0, 3, 4, 5], [0, 1, 2, 4, 5, 3]])]
def ck8 : List Row9 := [(8, 6, [[1, 0, 2, 3, 4, 5], [0, 1, 3, 2, 4, 5], [0, 1, 2, 3, 5, 4]])]
def ck9 : List Row9 := [(7, 7, [[1, 2, 3, 4, 5, 6, 0]])]
def ck10 : List Row9 := [(8, 8, [[1, 4, 7, 2, 5, 0, 3, 6], [2, 3, 4, 5, 6, 7, 0, 1]])]
def ck11 : List Row9 := [(8, 8, [[1, 0, 3, 2, 5, 4, 7, 6], [2, 3, 0, 1, 6, 7, 4, 5], [4, 5, 6, 7, 0, 1, 2, 3]])]
def tabSmall : List Row9 := ck1 ++ ck2 ++ ck3 ++ ck4 ++ ck5 ++ ck6 ++ ck7 ++ ck8 ++ ck9 ++ ck10 ++ ck11
section
variable {P : Program} {w : World} {K : PySem.W.Frag} {mg : Str → Option Value} {base : Heap}
def spTab (tab : List Row9) : Sp := fun vs H Q _ => vs = [] ∧ ∀ H' l, Same H H' → H l = none → LstK H' l tab → Q (.ref l) H'
theorem ok_z_small (Z : Defs K mg) : FnOk P w K mg base CX0 1 Z.z_small.f Z.z_small.fd ([] : List Str) (spTab tabSmall) := by
  refine Z.z_small.F.ok sc_z_small (fun vs H Q E h => ?_) (fun cdv A outer s H vs Q E hr h => ?_)
  · obtain ⟨rfl, _⟩ := h
    rfl
  · obtain ⟨rfl, q⟩ := h
    have nd := sc_z_small.nd
    refine ⟨_, (pss_cons (ps_set (i := 0) nd rfl (.inl rfl) (pe_rows (rs := ck1) (by rfl) (by decide)))
      (pss_cons (ps_set (i := 0) nd rfl (.inl rfl) (pe_grow (rs := ck2) (pv 0) (by rfl) (by decide)))
      (pss_cons (ps_set (i := 0) nd rfl (.inl rfl) (pe_grow (rs := ck3) (pv 0) (by rfl) (by decide)))
      (pss_cons (ps_set (i := 0) nd rfl (.inl rfl) (pe_grow (rs := ck4) (pv 0) (by rfl) (by decide)))
      (pss_cons (ps_set (i := 0) nd rfl (.inl rfl) (pe_grow (rs := ck5) (pv 0) (by rfl) (by decide)))
      (pss_cons (ps_set (i := 0) nd rfl (.inl rfl) (pe_grow (rs := ck6) (pv 0) (by rfl) (by decide)))
      (pss_cons (ps_set (i := 0) nd rfl (.inl rfl) (pe_grow (rs := ck7) (pv 0) (by rfl) (by decide)))
      (pss_cons (ps_set (i := 0) nd rfl (.inl rfl) (pe_grow (rs := ck8) (pv 0) (by rfl) (by decide)))
      (pss_cons (ps_expr (pe_bm PySem.F.plainAttrs_list PySem.F.slot_list_append PySem.F.type_list_append mt_append (pv 0) (pa_cons (pe_R (t := ck9.getD 0 (0, 0, [])) (by rfl)) pa_nil)))
      (pss_cons (ps_expr (pe_bm PySem.F.plainAttrs_list PySem.F.slot_list_append PySem.F.type_list_append mt_append (pv 0) (pa_cons (pe_R (t := ck10.getD 0 (0, 0, [])) (by rfl)) pa_nil)))
      (pss_cons (ps_expr (pe_bm PySem.F.plainAttrs_list PySem.F.slot_list_append PySem.F.type_list_append mt_append (pv 0) (pa_cons (pe_R (t := ck11.getD 0 (0, 0, [])) (by rfl)) pa_nil)))
      (pss_one (ps_ret (pv 0)))))))))))))), ?_⟩
    intro H1 l1 s1 n1 L1
    have SM1 : Same H H1 := s1
    have F1 : H l1 = none := n1
    refine ⟨l1, _, rfl, L1, by decide, fun H2 l2 s2 n2 L2 => ?_⟩
    have SM2 : Same H H2 := SM1.trans s2
    have F2 : H l2 = none := SM1.free n2
    refine ⟨l2, _, rfl, L2, by decide, fun H3 l3 s3 n3 L3 => ?_⟩
    have SM3 : Same H H3 := SM2.trans s3
    have F3 : H l3 = none := SM2.free n3
    refine ⟨l3, _, rfl, L3, by decide, fun H4 l4 s4 n4 L4 => ?_⟩
    have SM4 : Same H H4 := SM3.trans s4
    have F4 : H l4 = none := SM3.free n4
    refine ⟨l4, _, rfl, L4, by decide, fun H5 l5 s5 n5 L5 => ?_⟩
    have SM5 : Same H H5 := SM4.trans s5
    have F5 : H l5 = none := SM4.free n5
    refine ⟨l5, _, rfl, L5, by decide, fun H6 l6 s6 n6 L6 => ?_⟩
    have SM6 : Same H H6 := SM5.trans s6
    have F6 : H l6 = none := SM5.free n6
    refine ⟨l6, _, rfl, L6, by decide, fun H7 l7 s7 n7 L7 => ?_⟩
    have SM7 : Same H H7 := SM6.trans s7
    have F7 : H l7 = none := SM6.free n7
    refine ⟨l7, _, rfl, L7, by decide, fun H8 l8 s8 n8 L8 => ?_⟩
    have SM8 : Same H H8 := SM7.trans s8
    have F8 : H l8 = none := SM7.free n8
    obtain ⟨vs8, hv8, hp8⟩ := L8
    refine ⟨.ref l8, rfl, .inl ⟨rfl, _, SqL.of hv8⟩, fun K9 v9 t9 k9 => ?_⟩
    have hv8b := t9 _ _ hv8
    have ln8 := Paired.length hp8
    refine ⟨l8, vs8, v9, rfl, rfl, hv8b, ?_, ?_⟩
    · rw [ln8]
      exact small_lt (by decide)
    have e9 : Evo K9 (upd K9 l8 (.lst (vs8 ++ [v9]))) := evo_lst hv8b
    have L9 : LstK (upd K9 l8 (.lst (vs8 ++ [v9]))) l8 _ := ⟨_, upd_same, Paired.snoc (Paired.mapP hp8 fun _ _ z => (KnT.evo (evo_of_same t9) z).evo e9) (k9.evo e9)⟩
    have SM9 : Same H (upd K9 l8 (.lst (vs8 ++ [v9]))) := same_put (SM8.trans t9) F8
    have F9 : H l8 = none := F8
    generalize upd K9 l8 (.lst (vs8 ++ [v9])) = H9 at e9 L9 SM9
    obtain ⟨vs9, hv9, hp9⟩ := L9
    refine ⟨.ref l8, rfl, .inl ⟨rfl, _, SqL.of hv9⟩, fun K10 v10 t10 k10 => ?_⟩
    have hv9b := t10 _ _ hv9
    have ln9 := Paired.length hp9
    refine ⟨l8, vs9, v10, rfl, rfl, hv9b, ?_, ?_⟩
    · rw [ln9]
      exact small_lt (by decide)
    have e10 : Evo K10 (upd K10 l8 (.lst (vs9 ++ [v10]))) := evo_lst hv9b
    have L10 : LstK (upd K10 l8 (.lst (vs9 ++ [v10]))) l8 _ := ⟨_, upd_same, Paired.snoc (Paired.mapP hp9 fun _ _ z => (KnT.evo (evo_of_same t10) z).evo e10) (k10.evo e10)⟩
    have SM10 : Same H (upd K10 l8 (.lst (vs9 ++ [v10]))) := same_put (SM9.trans t10) F9
    have F10 : H l8 = none := F9
    generalize upd K10 l8 (.lst (vs9 ++ [v10])) = H10 at e10 L10 SM10
    obtain ⟨vs10, hv10, hp10⟩ := L10
    refine ⟨.ref l8, rfl, .inl ⟨rfl, _, SqL.of hv10⟩, fun K11 v11 t11 k11 => ?_⟩
    have hv10b := t11 _ _ hv10
    have ln10 := Paired.length hp10
    refine ⟨l8, vs10, v11, rfl, rfl, hv10b, ?_, ?_⟩
    · rw [ln10]
      exact small_lt (by decide)
    have e11 : Evo K11 (upd K11 l8 (.lst (vs10 ++ [v11]))) := evo_lst hv10b
    have L11 : LstK (upd K11 l8 (.lst (vs10 ++ [v11]))) l8 _ := ⟨_, upd_same, Paired.snoc (Paired.mapP hp10 fun _ _ z => (KnT.evo (evo_of_same t11) z).evo e11) (k11.evo e11)⟩
    have SM11 : Same H (upd K11 l8 (.lst (vs10 ++ [v11]))) := same_put (SM10.trans t11) F10
    have F11 : H l8 = none := F10
    generalize upd K11 l8 (.lst (vs10 ++ [v11])) = H11 at e11 L11 SM11
    exact ⟨.ref l8, rfl, q _ _ SM11 F11 L11⟩
end
def ck12 : List Row9 := [(10, 5, [[1, 2, 3, 4, 0], [0, 4, 3, 2, 1]]), (12, 4, [[1, 2, 0, 3], [1, 0, 3, 2]])]
def ck13 : List Row9 := [(12, 5, [[1, 2, 0, 3, 4], [1, 0, 2, 3, 4], [0, 1, 2, 4, 3]])]
def ck14 : List Row9 := [(12, 6, [[1, 2, 3, 4, 5, 0], [0, 5, 4, 3, 2, 1]])]
def ck15 : List Row9 := [(12, 6, [[3, 0, 4, 1, 5, 2], [0, 4, 3, 2, 1, 5]])]
def ck16 : List Row9 := [(20, 5, [[1, 2, 3, 4, 0], [0, 2, 4, 1, 3]]), (24, 4, [[1, 2, 3, 0], [1, 0, 2, 3]])]
def ck17 : List Row9 := [(24, 6, [[3, 4, 0, 5, 1, 2], [0, 3, 4, 1, 2, 5]])]
def ck18 : List Row9 := [(24, 6, [[1, 0, 2, 3, 4, 5], [2, 3, 4, 5, 0, 1]])]
def ck19 : List Row9 := [(14, 7, [[1, 2, 3, 4, 5, 6, 0], [0, 6, 5, 4, 3, 2, 1]])]
def ck20 : List Row9 := [(21, 7, [[1, 2, 3, 4, 5, 6, 0], [0, 2, 4, 6, 1, 3, 5]])]
def ck21 : List Row9 := [(42, 7, [[1, 2, 3, 4, 5, 6, 0], [0, 3, 6, 2, 5, 1, 4]])]
def ck22 : List Row9 := [(36, 6, [[1, 2, 0, 3, 4, 5], [1, 0, 2, 3, 4, 5], [0, 1, 2, 4, 5, 3], [0, 1, 2, 4, 3, 5]])]
def ck23 : List Row9 := [(72, 6, [[1, 2, 0, 3, 4, 5], [1, 0, 2, 3, 4, 5], [3, 4, 5, 0, 1, 2]])]
def ck24 : List Row9 := [(60, 5, [[1, 2, 3, 4, 0], [1, 2, 0, 3, 4]])]
def ck25 : List Row9 := [(60, 6, [[1, 2, 3, 4, 0, 5], [5, 4, 2, 3, 1, 0]])]
def ck26 : List Row9 := [(120, 5, [[1, 2, 3, 4, 0], [1, 0, 2, 3, 4]])]
def ck27 : List Row9 := [(120, 6, [[1, 2, 3, 4, 0, 5], [5, 4, 2, 3, 1, 0], [0, 2, 4, 1, 3, 5]])]
def ck28 : List Row9 := [(168, 7, [[1, 2, 3, 4, 5, 6, 0], [1, 0, 5, 3, 4, 2, 6]])]
def tabLarge : List Row9 := ck12 ++ ck13 ++ ck14 ++ ck15 ++ ck16 ++ ck17 ++ ck18 ++ ck19 ++ ck20 ++ ck21 ++ ck22 ++ ck23 ++ ck24 ++ ck25 ++ ck26 ++ ck27 ++ ck28
def three9 : List (List Nat) := [[1, 2, 0, 3, 4, 5], [1, 0, 2, 3, 4, 5]]
section
variable {P : Program} {w : World} {K : PySem.W.Frag} {mg : Str → Option Value} {base : Heap}
theorem ok_z_large (Z : Defs K mg) : FnOk P w K mg base CX0 1 Z.z_large.f Z.z_large.fd ([] : List Str) (spTab tabLarge) := by
  refine Z.z_large.F.ok sc_z_large (fun vs H Q E h => ?_) (fun cdv A outer s H vs Q E hr h => ?_)
  · obtain ⟨rfl, _⟩ := h
    rfl
  · obtain ⟨rfl, q⟩ := h
    have nd := sc_z_large.nd
    refine ⟨_, (pss_cons (ps_set (i := 0) nd rfl (.inl rfl) (pe_rows (rs := ck12) (by rfl) (by decide)))
      (pss_cons (ps_set (i := 0) nd rfl (.inl rfl) (pe_grow (rs := ck13) (pv 0) (by rfl) (by decide)))
      (pss_cons (ps_set (i := 0) nd rfl (.inl rfl) (pe_grow (rs := ck14) (pv 0) (by rfl) (by decide)))
      (pss_cons (ps_set (i := 0) nd rfl (.inl rfl) (pe_grow (rs := ck15) (pv 0) (by rfl) (by decide)))
      (pss_cons (ps_set (i := 0) nd rfl (.inl rfl) (pe_grow (rs := ck16) (pv 0) (by rfl) (by decide)))
      (pss_cons (ps_set (i := 0) nd rfl (.inl rfl) (pe_grow (rs := ck17) (pv 0) (by rfl) (by decide)))
      (pss_cons (ps_set (i := 0) nd rfl (.inl rfl) (pe_grow (rs := ck18) (pv 0) (by rfl) (by decide)))
      (pss_cons (ps_set (i := 0) nd rfl (.inl rfl) (pe_grow (rs := ck19) (pv 0) (by rfl) (by decide)))
      (pss_cons (ps_set (i := 0) nd rfl (.inl rfl) (pe_grow (rs := ck20) (pv 0) (by rfl) (by decide)))
      (pss_cons (ps_set (i := 0) nd rfl (.inl rfl) (pe_grow (rs := ck21) (pv 0) (by rfl) (by decide)))
      (pss_cons (ps_set (i := 1) nd rfl (.inl rfl) (pe_T2 (Ss := three9) (by rfl)))
      (pss_cons (ps_set (i := 0) nd rfl (.inl rfl) (pe_op op_cat (pv 0) (pe_lst (pa_cons (pe_tup (pa_cons pe_int (pa_cons pe_int (pa_cons (pe_op op_catA (pv 1) (pe_T2 (Ss := [[0, 1, 2, 4, 5, 3], [0, 1, 2, 4, 3, 5]]) (by rfl))) pa_nil)))) pa_nil))))
      (pss_cons (ps_set (i := 0) nd rfl (.inl rfl) (pe_op op_cat (pv 0) (pe_lst (pa_cons (pe_tup (pa_cons pe_int (pa_cons pe_int (pa_cons (pe_op op_catA (pv 1) (pe_T2 (Ss := [[3, 4, 5, 0, 1, 2]]) (by rfl))) pa_nil)))) pa_nil))))
      (pss_cons (ps_set (i := 0) nd rfl (.inl rfl) (pe_grow (rs := ck24) (pv 0) (by rfl) (by decide)))
      (pss_cons (ps_set (i := 0) nd rfl (.inl rfl) (pe_grow (rs := ck25) (pv 0) (by rfl) (by decide)))
      (pss_cons (ps_set (i := 0) nd rfl (.inl rfl) (pe_grow (rs := ck26) (pv 0) (by rfl) (by decide)))
      (pss_cons (ps_set (i := 0) nd rfl (.inl rfl) (pe_grow (rs := ck27) (pv 0) (by rfl) (by decide)))
      (pss_one (ps_ret (pe_grow (rs := ck28) (pv 0) (by rfl) (by decide))))))))))))))))))))), ?_⟩
    intro H1 l1 s1 n1 L1
    have SM1 : Same H H1 := s1
    have F1 : H l1 = none := n1
    refine ⟨l1, _, rfl, L1, by decide, fun H2 l2 s2 n2 L2 => ?_⟩
    have SM2 : Same H H2 := SM1.trans s2
    have F2 : H l2 = none := SM1.free n2
    refine ⟨l2, _, rfl, L2, by decide, fun H3 l3 s3 n3 L3 => ?_⟩
    have SM3 : Same H H3 := SM2.trans s3
    have F3 : H l3 = none := SM2.free n3
    refine ⟨l3, _, rfl, L3, by decide, fun H4 l4 s4 n4 L4 => ?_⟩
    have SM4 : Same H H4 := SM3.trans s4
    have F4 : H l4 = none := SM3.free n4
    refine ⟨l4, _, rfl, L4, by decide, fun H5 l5 s5 n5 L5 => ?_⟩
    have SM5 : Same H H5 := SM4.trans s5
    have F5 : H l5 = none := SM4.free n5
    refine ⟨l5, _, rfl, L5, by decide, fun H6 l6 s6 n6 L6 => ?_⟩
    have SM6 : Same H H6 := SM5.trans s6
    have F6 : H l6 = none := SM5.free n6
    refine ⟨l6, _, rfl, L6, by decide, fun H7 l7 s7 n7 L7 => ?_⟩
    have SM7 : Same H H7 := SM6.trans s7
    have F7 : H l7 = none := SM6.free n7
    refine ⟨l7, _, rfl, L7, by decide, fun H8 l8 s8 n8 L8 => ?_⟩
    have SM8 : Same H H8 := SM7.trans s8
    have F8 : H l8 = none := SM7.free n8
    refine ⟨l8, _, rfl, L8, by decide, fun H9 l9 s9 n9 L9 => ?_⟩
    have SM9 : Same H H9 := SM8.trans s9
    have F9 : H l9 = none := SM8.free n9
    refine ⟨l9, _, rfl, L9, by decide, fun H10 l10 s10 n10 L10 => ?_⟩
    have SM10 : Same H H10 := SM9.trans s10
    have F10 : H l10 = none := SM9.free n10
    intro H11 v3 s11 T11
    have SM11 : Same H H11 := SM10.trans s11
    have F11 := F10
    have L11 : LstK H11 l10 _ := let ⟨vs, h1, h2⟩ := L10; ⟨vs, s11 _ _ h1, Paired.mapP h2 fun _ _ z => KnT.evo (evo_of_same s11) z⟩
    let l11 := l10
    obtain ⟨ta11, tv11, et11, ht11, hq11⟩ := id T11
    obtain ⟨vs11, hv11, hp11⟩ := L11
    have ln11 := Paired.length hp11
    refine ⟨.ref l11, rfl, v3, rfl, fun K11 u11 t11 k11 => ?_⟩
    obtain ⟨ua11, uv11, eu11, hu11, hw11⟩ := k11
    have lt11 : tv11.length = 2 := Paired.length hq11
    have lu11 := Paired.length hw11
    refine ⟨ta11, ua11, tv11, uv11, et11, eu11, SqT.of (t11 _ _ ht11), SqT.of hu11, ?_, fun z => ?_, fun _ z => ?_, fun _ _ p11 np11 => ?_⟩
    · rw [lt11, lu11]
      exact small_size (by decide)
    · rw [z] at lt11
      cases lt11
    · rw [z] at lu11
      cases lu11
    refine ⟨small_size (by simp), fun r11 nr11 => ⟨small_size (by simp), fun m11 nm11 => ?_⟩⟩
    have a1 := same_new (o := .tup (tv11 ++ uv11)) np11
    have a2 := same_new (o := .tup [V.int 36, V.int 6, V.ref p11]) nr11
    have a3 := same_new (o := .lst [V.ref r11]) nm11
    refine ⟨l11, m11, vs11, _, rfl, rfl, a3 _ _ (a2 _ _ (a1 _ _ (t11 _ _ hv11))), upd_same, ?_, fun l12 nl12 => ?_⟩
    · rw [ln11]
      exact small_size (show _ + 1 ≤ 100000 by decide)
    have a4 := same_new (o := .lst (vs11 ++ [V.ref r11])) nl12
    have KK : KnT _ (V.ref r11) (ck22.getD 0 (0, 0, [])) := ⟨r11, .ref p11, rfl, (a4 _ _ (a3 _ _ upd_same)), p11, tv11 ++ uv11, rfl, a4 _ _ (a3 _ _ (a2 _ _ upd_same)), Paired.app2 (Tps.evo (evo_of_same (t11.trans (a1.trans (a2.trans (a3.trans a4))))) hq11) (Tps.evo (evo_of_same (a1.trans (a2.trans (a3.trans a4)))) hw11)⟩
    have L12 : LstK _ l12 _ := ⟨_, upd_same, Paired.snoc (Paired.mapP hp11 fun _ _ z => KnT.evo (evo_of_same (t11.trans (a1.trans (a2.trans (a3.trans a4))))) z) KK⟩
    have SM12 := SM11.trans (t11.trans (a1.trans (a2.trans (a3.trans a4))))
    have T12 := T11.evo (evo_of_same (t11.trans (a1.trans (a2.trans (a3.trans a4)))))
    have F12 : H l12 = none := (SM11.trans (t11.trans (a1.trans (a2.trans a3)))).free nl12
    clear KK
    clear a4 a3 a2 a1
    generalize upd _ l12 _ = H12 at L12 SM12 T12 ⊢
    obtain ⟨ta12, tv12, et12, ht12, hq12⟩ := id T12
    obtain ⟨vs12, hv12, hp12⟩ := L12
    have ln12 := Paired.length hp12
    refine ⟨.ref l12, rfl, v3, rfl, fun K12 u12 t12 k12 => ?_⟩
    obtain ⟨ua12, uv12, eu12, hu12, hw12⟩ := k12
    have lt12 : tv12.length = 2 := Paired.length hq12
    have lu12 := Paired.length hw12
    refine ⟨ta12, ua12, tv12, uv12, et12, eu12, SqT.of (t12 _ _ ht12), SqT.of hu12, ?_, fun z => ?_, fun _ z => ?_, fun _ _ p12 np12 => ?_⟩
    · rw [lt12, lu12]
      exact small_size (by decide)
    · rw [z] at lt12
      cases lt12
    · rw [z] at lu12
      cases lu12
    refine ⟨small_size (by simp), fun r12 nr12 => ⟨small_size (by simp), fun m12 nm12 => ?_⟩⟩
    have a1 := same_new (o := .tup (tv12 ++ uv12)) np12
    have a2 := same_new (o := .tup [V.int 72, V.int 6, V.ref p12]) nr12
    have a3 := same_new (o := .lst [V.ref r12]) nm12
    refine ⟨l12, m12, vs12, _, rfl, rfl, a3 _ _ (a2 _ _ (a1 _ _ (t12 _ _ hv12))), upd_same, ?_, fun l13 nl13 => ?_⟩
    · rw [ln12]
      exact small_size (show _ + 1 ≤ 100000 by decide)
    have a4 := same_new (o := .lst (vs12 ++ [V.ref r12])) nl13
    have KK : KnT _ (V.ref r12) (ck23.getD 0 (0, 0, [])) := ⟨r12, .ref p12, rfl, (a4 _ _ (a3 _ _ upd_same)), p12, tv12 ++ uv12, rfl, a4 _ _ (a3 _ _ (a2 _ _ upd_same)), Paired.app2 (Tps.evo (evo_of_same (t12.trans (a1.trans (a2.trans (a3.trans a4))))) hq12) (Tps.evo (evo_of_same (a1.trans (a2.trans (a3.trans a4)))) hw12)⟩
    have L13 : LstK _ l13 _ := ⟨_, upd_same, Paired.snoc (Paired.mapP hp12 fun _ _ z => KnT.evo (evo_of_same (t12.trans (a1.trans (a2.trans (a3.trans a4))))) z) KK⟩
    have SM13 := SM12.trans (t12.trans (a1.trans (a2.trans (a3.trans a4))))
    have T13 := T12.evo (evo_of_same (t12.trans (a1.trans (a2.trans (a3.trans a4)))))
    have F13 : H l13 = none := (SM12.trans (t12.trans (a1.trans (a2.trans a3)))).free nl13
    clear KK
    clear a4 a3 a2 a1
    generalize upd _ l13 _ = H13 at L13 SM13 T13 ⊢
    refine ⟨l13, _, rfl, L13, by decide, fun H14 l14 s14 n14 L14 => ?_⟩
    have SM14 : Same H H14 := SM13.trans s14
    have F14 : H l14 = none := SM13.free n14
    have T14 := T13.evo (evo_of_same s14)
    refine ⟨l14, _, rfl, L14, by decide, fun H15 l15 s15 n15 L15 => ?_⟩
    have SM15 : Same H H15 := SM14.trans s15
    have F15 : H l15 = none := SM14.free n15
    have T15 := T14.evo (evo_of_same s15)
    refine ⟨l15, _, rfl, L15, by decide, fun H16 l16 s16 n16 L16 => ?_⟩
    have SM16 : Same H H16 := SM15.trans s16
    have F16 : H l16 = none := SM15.free n16
    have T16 := T15.evo (evo_of_same s16)
    refine ⟨l16, _, rfl, L16, by decide, fun H17 l17 s17 n17 L17 => ?_⟩
    have SM17 : Same H H17 := SM16.trans s17
    have F17 : H l17 = none := SM16.free n17
    have T17 := T16.evo (evo_of_same s17)
    exact ⟨l17, _, rfl, L17, by decide, fun H9 l9 s9 n9 L9 => q _ _ (SM17.trans s9) (SM17.free n9) L9⟩
end
end KW
end
section
namespace KW
open PySem PySem.Spec PyProof.Rows L2 KM
/-! ### sets as data -/
def dI (S : List Nat) : List PyData := S.map fun n : Nat => PyData.int (n : Int)
def dS (S : List Nat) : PyData := .tuple (dI S)
theorem dI_lay : ∀ S : List Nat, PyData.canLayAll0 (dI S) = true
  | [] => by simp [dI, PyData.canLayAll0]
  | n :: S => by
    have := dI_lay S
    unfold dI at this ⊢
    simp [PyData.canLayAll0, PyData.canLay0, this]
theorem dI_depth : ∀ S : List Nat, PyData.depthAll (dI S) = 0
  | [] => by simp [dI, PyData.depthAll]
  | n :: S => by
    have := dI_depth S
    unfold dI at this ⊢
    simp [PyData.depthAll, PyData.depth, this]
theorem dS_lay (S : List Nat) : (dS S).canLay0 = true := by
  unfold dS
  simp [PyData.canLay0, dI_lay S]
theorem dS_depth (S : List Nat) : (dS S).depth = 1 := by
  unfold dS
  simp [PyData.depth, dI_depth S]
theorem dSs_lay : ∀ Ss : List (List Nat), PyData.canLayAll0 (Ss.map dS) = true
  | [] => by simp [PyData.canLayAll0]
  | S :: Ss => by simp [PyData.canLayAll0, dS_lay S, dSs_lay Ss]
theorem dSs_depth : ∀ Ss : List (List Nat), PyData.depthAll (Ss.map dS) ≤ 1
  | [] => by simp [PyData.depthAll]
  | S :: Ss => by
    have h1 := dSs_depth Ss
    have h2 := dS_depth S
    simp only [List.map_cons, PyData.depthAll]
    omega
theorem shaped_of {d : PyData} (h1 : d.canLay0 = true) (h2 : d.depth ≤ 64) : SeqAt.shaped d = true := by
  unfold SeqAt.shaped
  rw [h1, decide_eq_true h2]
  rfl
theorem dS_shaped (S : List Nat) : SeqAt.shaped (dS S) = true := shaped_of (dS_lay S) (by rw [dS_depth]; decide)
theorem dL_shaped (Ss : List (List Nat)) : SeqAt.shaped (.list (Ss.map dS)) = true := shaped_of (by simp [PyData.canLay0, dSs_lay Ss]) (by
  have := dSs_depth Ss
  simp only [PyData.depth]
  omega)
theorem dT_shaped (Ss : List (List Nat)) : SeqAt.shaped (.tuple (Ss.map dS)) = true := shaped_of (by simp [PyData.canLay0, dSs_lay Ss]) (by
  have := dSs_depth Ss
  simp only [PyData.depth]
  omega)
theorem dIl_shaped (S : List Nat) : SeqAt.shaped (.list (dI S)) = true := shaped_of (by simp [PyData.canLay0, dI_lay S]) (by
  have := dI_depth S
  simp only [PyData.depth]
  omega)
theorem dI_eqv : ∀ S T : List Nat, PyData.eqvAll (dI S) (dI T) = decide (S = T)
  | [], [] => by simp [dI, PyData.eqvAll]
  | [], _ :: _ => by simp [dI, PyData.eqvAll]
  | _ :: _, [] => by simp [dI, PyData.eqvAll]
  | x :: S, y :: T => by
    have ih := dI_eqv S T
    show PyData.eqvAll (PyData.int (x : Int) :: dI S) (PyData.int (y : Int) :: dI T) = _
    simp only [PyData.eqvAll, PyData.eqv]
    rw [ih, Bool.eq_iff_iff, Bool.and_eq_true_iff, beq_iff_eq, decide_eq_true_iff, decide_eq_true_iff]
    constructor
    · rintro ⟨h1, rfl⟩
      rw [show x = y by omega]
    · intro h
      obtain ⟨rfl, rfl⟩ := List.cons.inj h
      exact ⟨rfl, rfl⟩
theorem dS_eqv (S T : List Nat) : PyData.eqv (dS S) (dS T) = decide (S = T) := by
  unfold dS
  simp only [PyData.eqv]
  exact dI_eqv S T
theorem dSs_eqv : ∀ Ss Ts : List (List Nat), PyData.eqvAll (Ss.map dS) (Ts.map dS) = decide (Ss = Ts)
  | [], [] => by simp [PyData.eqvAll]
  | [], _ :: _ => by simp [PyData.eqvAll]
  | _ :: _, [] => by simp [PyData.eqvAll]
  | S :: Ss, T :: Ts => by
    simp only [List.map_cons, PyData.eqvAll]
    rw [dS_eqv, dSs_eqv Ss Ts, Bool.eq_iff_iff, Bool.and_eq_true_iff, decide_eq_true_iff, decide_eq_true_iff, decide_eq_true_iff, List.cons.injEq]
section
variable {K : PySem.W.Frag} {H : Hp}
theorem dp_iv : ∀ S : List Nat, DpAll K H (iv S) (dI S)
  | [] => .nil
  | n :: S => .cons (.int _) (dp_iv S)
theorem dp_tp {v : V} {S : List Nat} (h : Tp H v S) : Dp K H v (dS S) := by
  obtain ⟨a, rfl, ha⟩ := h
  exact .tup (SqT.of ha) (dp_iv S)
theorem dp_tps : ∀ {vs : List V} {Ss : List (List Nat)}, Tps H vs Ss → DpAll K H vs (Ss.map dS)
  | _, _, .nil => .nil
  | _, _, .cons h t => .cons (dp_tp h) (dp_tps t)
theorem dp_lst {l : Addr} {vs : List V} {Ss : List (List Nat)} (h : H l = some (.lst vs)) (p : Tps H vs Ss) : Dp K H (.ref l) (.list (Ss.map dS)) := .lst (SqL.of h) (dp_tps p)
theorem dp_tts {v : V} {Ss : List (List Nat)} (h : Tts H v Ss) : Dp K H v (.tuple (Ss.map dS)) := by
  obtain ⟨a, vs, rfl, ha, hp⟩ := h
  exact .tup (SqT.of ha) (dp_tps hp)
theorem dp_ivl {l : Addr} {S : List Nat} (h : H l = some (.lst (iv S))) : Dp K H (.ref l) (.list (dI S)) := .lst (SqL.of h) (dp_iv S)
end
end KW
end
section
namespace KW
open PySem PySem.Spec PyProof.Rows L2 KM
/-! ### the table of groups -/
def okRow (t : Row9) : Bool := decide (t.1 ≤ 168) && decide (t.2.1 ≤ 7)
def tabAll : List Row9 := tabSmall ++ tabLarge
theorem tab_ok : (tabAll.filter okRow).all rowOk = true := by decide +kernel
theorem tab_pos : 1 ≤ (tabAll.filter okRow).length := by decide +kernel
theorem tab_len : tabAll.length ≤ 100 := by decide +kernel
section
variable {P : Program} {w : World} {K : PySem.W.Frag} {mg : Str → Option Value} {base : Heap}
def spKnown (K : PySem.W.Frag) : Sp := fun vs H Q _ => ∃ (r sc : Addr) (ns : List Int), vs = [.ref r, .int 7, .int 168] ∧ RowAt K H r sc ns ∧
  ∀ H' z n gens, But1 r H H' → RowAt K H' r sc ns → Good n gens → Grp H' z n gens → Q z H'
/-- the list of generators, while the group is made -/
structure GensAt (H : Hp) (l : Addr) (n m : Nat) (gs : List (List Nat)) : Prop where
  at_ : ∃ vs, H l = some (.lst vs) ∧ Tps H vs gs
  ge : Gens n gs
  small : Small n gs
  len : gs.length ≤ m
theorem GensAt.same {H H' : Hp} {l : Addr} {n m : Nat} {gs : List (List Nat)} (g : GensAt H l n m gs) (s : Same H H') : GensAt H' l n m gs :=
  ⟨let ⟨vs, h1, h2⟩ := g.at_; ⟨vs, s _ _ h1, Tps.evo (evo_of_same s) h2⟩, g.ge, g.small, g.len⟩
theorem ok_z_known (Z : Defs K mg) : FnOk P w K mg base CX0 3 Z.z_known.f Z.z_known.fd ["_law_row", "_law_degree", "_law_most"] (spKnown K) := by
  have G_z_small := ok_z_small (P := P) (w := w) (base := base) Z
  have G_z_large := ok_z_large (P := P) (w := w) (base := base) Z
  have G_z_pick := ok_z_pick (P := P) (w := w) (base := base) Z
  have G_z_perm := ok_z_perm (P := P) (w := w) (base := base) Z
  have G_z_conj := ok_z_conj (P := P) (w := w) (base := base) Z
  have G_z_taken := ok_z_taken (P := P) (w := w) (base := base) Z
  have G_z_mul := ok_z_mul (P := P) (w := w) (base := base) Z
  have G_z_unit := ok_z_unit (P := P) (w := w) (base := base) Z
  refine Z.z_known.F.ok sc_z_known (fun vs H Q E h => ?_) (fun cdv A outer s H vs Q E hr h => ?_)
  · obtain ⟨r, sc, ns, rfl, _⟩ := h
    rfl
  · obtain ⟨r, sc, ns, rfl, R, q⟩ := h
    have nd := sc_z_known.nd
    refine ⟨_, (pss_cons (ps_setLc (i := 4) (own := [("_law_told", 3)]) (g := gName 3) rfl nd rfl rfl (sw_true rfl rfl rfl (by decide +kernel)) (pi_list (pe_op op_cat (pe_call0 G_z_small (hr.mono (by decide)) (by rfl) Z.z_small.g Z.z_small.F.kp Z.z_small.b .nil pass0) (pe_call0 G_z_large (hr.mono (by decide)) (by rfl) Z.z_large.g Z.z_large.F.kp Z.z_large.b .nil pass0))) (blkOk_by (N := N_z_known) (sc := defScope s_z_known) (by decide +kernel)) (fun _ _ _ _ _ => pg_name (i := 3) nd rfl (Or.inl rfl)) (fun _ _ _ _ _ => (pts_one (PW.pt (pw_and (pt_cmpR op_le (pe_ix (ixT (K := K)) (pv 3) pe_int (fun _ _ => rfl)) (pv 2) (nomark _)) (pw_and1 (pt_cmpR op_le (pe_ix (ixT (K := K)) (pv 3) pe_int (fun _ _ => rfl)) (pv 1) (nomark _))))))) (fun _ _ _ _ _ => (pv 3)))
      (pss_cons (ps_set (i := 3) nd rfl (.inl rfl) (pe_call G_z_pick (hr.mono (by decide)) (by rfl) Z.z_pick.g Z.z_pick.F.kp Z.z_pick.b .nil pass0 (pa_cons (pv 0) (pa_cons (pv 4) pa_nil))))
      (pss_cons (ps_set (i := 5) nd rfl (.inr rfl) (pe_call G_z_perm (hr.mono (by decide)) (by rfl) Z.z_perm.g Z.z_perm.F.kp Z.z_perm.b .nil pass0 (pa_cons (pv 0) (pa_cons (pe_ix ix_tup (pv 3) pe_int (fun _ _ => rfl)) pa_nil))))
      (pss_cons (ps_setLc (i := 6) (own := [("_law_p", 7)]) (g := gName 7) rfl nd rfl rfl (sw_true rfl rfl rfl (by decide +kernel)) (pi_tup (pe_ix ix_tup (pv 3) pe_int (fun _ _ => rfl))) (blkOk_by (N := N_z_known) (sc := defScope s_z_known) (by decide +kernel)) (fun _ _ _ _ _ => pg_name (i := 7) nd rfl (Or.inl rfl)) (fun _ _ _ _ _ => pts_nil) (fun _ _ _ _ _ => (pe_call G_z_conj (hr.mono (by decide)) (by rfl) Z.z_conj.g Z.z_conj.F.kp Z.z_conj.b .nil pass0 (pa_cons (pv 7) (pa_cons (pv 5) pa_nil)))))
      (C8.pss_cut (ps_if (PW.pt (pw_and (pt_cmpR (op_neD (hr.mono (Nat.zero_le _)).units) (pv 6) (pe_lst pa_nil) (nomark _)) (pw_and1 (pt_cmpR op_eq (pe_call G_z_taken (hr.mono (by decide)) (by rfl) Z.z_taken.g Z.z_taken.F.kp Z.z_taken.b .nil pass0 (pa_cons (pv 0) (pa_cons pe_int pa_nil))) pe_int (nomark _)))))
        (pss_one (ps_set (i := 6) nd rfl (.inl rfl) (pe_op op_cat (pv 6) (pe_lst (pa_cons (pe_call G_z_mul (hr.mono (by decide)) (by rfl) Z.z_mul.g Z.z_mul.F.kp Z.z_mul.b .nil pass0 (pa_cons (pe_call G_z_pick (hr.mono (by decide)) (by rfl) Z.z_pick.g Z.z_pick.F.kp Z.z_pick.b .nil pass0 (pa_cons (pv 0) (pa_cons (pv 6) pa_nil))) (pa_cons (pe_call G_z_pick (hr.mono (by decide)) (by rfl) Z.z_pick.g Z.z_pick.F.kp Z.z_pick.b .nil pass0 (pa_cons (pv 0) (pa_cons (pv 6) pa_nil))) pa_nil))) pa_nil))))) pss_nil)
      (C8.pss_cut (ps_if (pt_cmpR op_eq (pe_call G_z_taken (hr.mono (by decide)) (by rfl) Z.z_taken.g Z.z_taken.F.kp Z.z_taken.b .nil pass0 (pa_cons (pv 0) (pa_cons pe_int pa_nil))) pe_int (nomark _))
        (pss_one (ps_set (i := 6) nd rfl (.inl rfl) (pe_op op_cat (pe_lst (pa_cons (pe_call G_z_unit (hr.mono (by decide)) (by rfl) Z.z_unit.g Z.z_unit.F.kp Z.z_unit.b .nil pass0 (pa_cons (pe_ix ix_tup (pv 3) pe_int (fun _ _ => rfl)) pa_nil)) pa_nil)) (pv 6)))) pss_nil)
      (pss_one (ps_ret (pe_tup (pa_cons (pe_ix ix_tup (pv 3) pe_int (fun _ _ => rfl)) (pa_cons (pe_callTy call_tuple_of (by rfl) Z.bare.tuple boot_tuple (pa_cons (pv 6) pa_nil)) pa_nil))))))))))), ?_⟩
    -- some = [.. for .. in small() + large() if ..]
    refine ⟨rfl, fun H1 l1 s1 n1 L1 => ⟨rfl, fun H2 l2 s2 n2 L2 => ?_⟩⟩
    obtain ⟨v1, h1, p1⟩ := L1
    obtain ⟨v2, h2, p2⟩ := L2
    have lv1 : v1.length = tabSmall.length := Paired.length p1
    have lv2 : v2.length = tabLarge.length := Paired.length p2
    have ltab := tab_len
    have eta : tabAll.length = tabSmall.length + tabLarge.length := List.length_append
    refine ⟨l1, l2, v1, v2, rfl, rfl, s2 _ _ h1, h2, small_size (by omega), fun l nl => ⟨l, rfl, ⟨_, SqL.of upd_same⟩, fun D nD => ?_⟩⟩
    have e2 : Evo H2 (upd H2 l (.lst (v1 ++ v2))) := evo_new nl
    have hp : Paired (KnT (upd H2 l (.lst (v1 ++ v2)))) (v1 ++ v2) tabAll := Paired.app2 (Paired.mapP p1 fun _ _ z => (z.evo (evo_of_same s2)).evo e2) (Paired.mapP p2 fun _ _ z => z.evo e2)
    have hl : (upd H2 l (.lst (v1 ++ v2))) l = some (.lst (v1 ++ v2)) := upd_same
    have sL : Same H (upd H2 l (.lst (v1 ++ v2))) := (s1.trans s2).trans (same_new nl)
    have hlen : (v1 ++ v2).length = tabAll.length := Paired.length hp
    generalize upd H2 l (.lst (v1 ++ v2)) = H3 at hp hl sL nD ⊢
    generalize v1 ++ v2 = vs at hp hl hlen ⊢
    refine lc_list (xs := vs) (fun j H4 => Same H3 H4 ∧ ∃ ws, H4 D = some (.lst ws) ∧ Paired (KnT H4) ws ((tabAll.take j).filter okRow)) ⟨same_new nD, [], upd_same, .nil⟩ (fun j H4 _ hP => SqL.of (hP.1 _ _ hl)) ?_ ?_
    · rintro j x H4 hx ⟨s4, ws, hD, hw⟩
      obtain ⟨t, ht, a, g, rfl, ha, hg⟩ := Paired.getL (Paired.mapP hp fun _ _ z => KnT.evo (evo_of_same s4) z) hx
      have hjl : j < tabAll.length := (List.getElem?_eq_some_iff.mp ht).1
      have hwl : ws.length ≤ 100 := by
        have a1 : ws.length = _ := Paired.length hw
        have a2 := List.length_filter_le okRow (tabAll.take j)
        rw [List.length_take] at a2
        omega
      have hnx : (tabAll.take (j + 1)).filter okRow = (tabAll.take j).filter okRow ++ (if okRow t = true then [t] else []) := by
        rw [List.take_add_one, ht]
        exact filter_snoc _ _ _
      have hA := SqT.of (K := K) ha
      have drop : okRow t = false → (Same H3 H4 ∧ ∃ ws, H4 D = some (.lst ws) ∧ Paired (KnT H4) ws ((tabAll.take (j + 1)).filter okRow)) := fun e => by
        refine ⟨s4, ws, hD, ?_⟩
        rw [hnx, e, if_neg Bool.false_ne_true, List.append_nil]
        exact hw
      refine ⟨rfl, .ref a, rfl, a, _, 0, .int (t.1 : Int), rfl, rfl, hA, rfl, .int 168, rfl, (t.1 : Int), 168, rfl, rfl, _, rfl, ite2 (fun c1 => ?_) (fun c1 => ?_)⟩
      · have c1' : t.1 ≤ 168 := by
          have := of_decide_eq_true c1
          omega
        refine ⟨.ref a, rfl, a, _, 1, .int (t.2.1 : Int), rfl, rfl, hA, rfl, .int 7, rfl, (t.2.1 : Int), 7, rfl, rfl, _, rfl, ite2 (fun c2 => ?_) (fun c2 => ?_)⟩
        · have c2' : t.2.1 ≤ 7 := by
            have := of_decide_eq_true c2
            omega
          have e : okRow t = true := by
            unfold okRow
            rw [decide_eq_true c1', decide_eq_true c2']
            rfl
          refine ⟨.ref a, rfl, ws, hD, small_lt (by omega), same_put s4 nD, ws ++ [.ref a], upd_same, ?_⟩
          rw [hnx, e, if_pos rfl]
          have ev : Evo H4 (upd H4 D (.lst (ws ++ [.ref a]))) := evo_lst hD
          exact Paired.snoc (Paired.mapP hw fun _ _ z => KnT.evo ev z) (KnT.evo ev ⟨a, g, rfl, ha, hg⟩)
        · refine drop ?_
          unfold okRow
          have : ¬ t.2.1 ≤ 7 := fun z => c2 (decide_eq_true (by omega))
          rw [decide_eq_false this, Bool.and_false]
      · refine drop ?_
        unfold okRow
        have : ¬ t.1 ≤ 168 := fun z => c1 (decide_eq_true (by omega))
        rw [decide_eq_false this, Bool.false_and]
    · rintro H4 ⟨s4, ws, hD, hw⟩
      rw [List.take_of_length_le (by omega)] at hw
      have R4 := R.evo (sL.trans s4)
      have hwl : ws.length = (tabAll.filter okRow).length := Paired.length hw
      have hf := List.length_filter_le okRow tabAll
      have hp1 := tab_pos
      obtain ⟨rxs, hrx⟩ := R.lst
      have hDr : D ≠ r := fun z => by
        rw [z, sL _ _ hrx] at nD
        cases nD
      -- told = pick(row, some)
      refine ⟨.ref r, rfl, .ref D, rfl, r, sc, D, ns, ws, rfl, R4, hD, hDr, by omega, by omega, fun H5 i v hv b5 R5 => ?_⟩
      obtain ⟨t, ht, hk⟩ := Paired.getL hw hv
      have htm : rowOk t = true := List.all_eq_true.mp tab_ok t (List.mem_of_getElem? ht)
      have B := base_of htm
      have b05 : But1 r H H5 := (but1_of_same (sL.trans s4)).trans b5
      obtain ⟨a, g, rfl, ha, hg⟩ := hk.evo (R4.evoB b5)
      -- moved = perm(row, told[1])
      refine ⟨.ref r, rfl, .ref a, rfl, a, _, 1, .int (t.2.1 : Int), rfl, rfl, SqT.of ha, rfl, r, sc, ns, t.2.1, rfl, R5, B.lo, B.hi, fun H6 z6 mv b6 R6 hmv hz6 => ?_⟩
      have ha6 := R5.evoB b6 _ _ ha
      have hg6 := hg.evo (R5.evoB b6)
      have b06 := b05.trans b6
      obtain ⟨ga, gvs, rfl, hga, hgp⟩ := hg6
      -- gens = [conj(p, moved) for p in told[2]]
      refine ⟨.ref a, rfl, a, _, 2, .ref ga, rfl, rfl, SqT.of ha6, rfl, ga, rfl, ⟨_, SqT.of hga⟩, fun D2 nD2 => ?_⟩
      have hglen : gvs.length = t.2.2.length := Paired.length hgp
      refine lc_tup (xs := gvs) (fun j H7 => Same H6 H7 ∧ ∃ ws, H7 D2 = some (.lst ws) ∧ Tps H7 ws ((t.2.2.take j).map fun p => KM.conj p mv)) ⟨same_new nD2, [], upd_same, .nil⟩ (fun j H7 _ hP => SqT.of (hP.1 _ _ hga)) ?_ ?_
      · rintro j x H7 hx ⟨s7, us, hD2, hu⟩
        obtain ⟨p, hpj, hxp⟩ := Paired.getL (hgp.evo (evo_of_same s7)) hx
        have hul : us.length ≤ 100 := by
          have a1 : us.length = _ := Paired.length hu
          rw [List.length_map, List.length_take] at a1
          have := B.many
          omega
        refine ⟨rfl, x, rfl, z6, rfl, t.2.1, p, mv, x, z6, rfl, hxp, hz6.evo (evo_of_same s7), B.gs p (List.mem_of_getElem? hpj), hmv, Nat.le_trans B.hi (by decide), fun H8 z8 s8 hz8 => ?_⟩
        have hD8 := s8 _ _ hD2
        refine ⟨us, hD8, small_lt (by omega), same_put (s7.trans s8) nD2, us ++ [z8], upd_same, ?_⟩
        have ev : Evo H8 (upd H8 D2 (.lst (us ++ [z8]))) := evo_lst hD8
        rw [List.take_add_one, hpj, List.map_append]
        exact Paired.snoc (Tps.evo ev (Tps.evo (evo_of_same s8) hu)) (hz8.evo ev)
      · rintro H7 ⟨s7, us, hD2, hu⟩
        rw [List.take_of_length_le (by omega)] at hu
        have R7 := R6.evo s7
        have b07 := b06.same s7
        have ha7 := s7 _ _ ha6
        have G7 : GensAt H7 D2 t.2.1 4 (t.2.2.map fun p => KM.conj p mv) := by
          refine ⟨⟨us, hD2, hu⟩, fun g hg => ?_, B.small.conj B.gs hmv, by rw [List.length_map]; exact B.many⟩
          obtain ⟨p, hp, rfl⟩ := List.mem_map.mp hg
          exact conj_isPerm (B.gs p hp) hmv
        have hD2r : D2 ≠ r := fun z => by
          obtain ⟨ys, hy⟩ := R6.lst
          rw [z, hy] at nD2
          cases nD2
        generalize (t.2.2.map fun p => KM.conj p mv) = gs at G7
        -- if gens != [] and taken(row, 3) == 0
        refine ⟨fun σ H8 => ∃ (l : Addr) (gs : List (List Nat)) (y7 : Option V), σ = [some (.ref r), some (.int 7), some (.int 168), some (.ref a), some (.ref D), some z6, some (.ref l), y7] ∧ But1 r H H8 ∧ RowAt K H8 r sc ns ∧ H8 a = some (.tup [.int (t.1 : Int), .int (t.2.1 : Int), .ref ga]) ∧ GensAt H8 l t.2.1 5 gs ∧ l ≠ r, ?_, ?_⟩
        · obtain ⟨ws7, hD7, hw7⟩ := G7.at_
          have skip : ∀ H8, But1 r H7 H8 → RowAt K H8 r sc ns → ∃ (l : Addr) (gs : List (List Nat)) (y7 : Option V), [some (.ref r), some (.int 7), some (.int 168), some (.ref a), some (.ref D), some z6, some (.ref D2), none] = [some (.ref r), some (.int 7), some (.int 168), some (.ref a), some (.ref D), some z6, some (V.ref l), y7] ∧ But1 r H H8 ∧ RowAt K H8 r sc ns ∧ H8 a = some (.tup [.int (t.1 : Int), .int (t.2.1 : Int), .ref ga]) ∧ GensAt H8 l t.2.1 5 gs ∧ l ≠ r := fun H8 b8 R8 =>
            ⟨D2, gs, none, rfl, b07.trans b8, R8, R7.evoB b8 _ _ ha7, ⟨⟨ws7, b8 _ _ hD2r hD7, Tps.evo (R7.evoB b8) hw7⟩, G7.ge, G7.small, Nat.le_trans G7.len (by decide)⟩, hD2r⟩
          refine ⟨.ref D2, rfl, small_size (by simp), fun e ne => ⟨.list (gs.map dS), .list (([] : List (List Nat)).map dS), dp_lst (same_new ne _ _ hD7) (Tps.evo (evo_new ne) hw7), dp_lst upd_same .nil, dL_shaped gs, dL_shaped [], _, rfl, ?_⟩⟩
          have se : Same H7 (upd H7 e (.lst [])) := same_new ne
          have eeq : PyData.eqv (.list (gs.map dS)) (.list (([] : List (List Nat)).map dS)) = decide (gs = []) := by
            simp only [PyData.eqv]
            exact dSs_eqv gs []
          rw [eeq]
          by_cases hgs : gs = []
          · rw [decide_eq_true hgs]
            refine iteF (iteF ?_)
            exact skip _ (but1_of_same se) (R7.evo se)
          · rw [decide_eq_false hgs]
            refine iteT ⟨.ref r, rfl, r, sc, ns, 3, rfl, R7.evo se, by decide, by decide, fun H8 tt htt b8 R8 => ⟨rfl, _, rfl, ?_⟩⟩
            have b78 : But1 r H7 H8 := (but1_of_same se).trans b8
            by_cases h0 : decide (V.int (tt : Int) = V.int 0) = true
            · rw [h0]
              -- gens = gens + [mul(pick(row, gens), pick(row, gens))]
              have hD8 := b78 _ _ hD2r hD7
              have hlen7 : ws7.length = gs.length := Paired.length hw7
              have hpos : 1 ≤ ws7.length := by
                rw [hlen7]
                exact List.length_pos_iff.mpr hgs
              have hl4 := G7.len
              refine iteT ⟨.ref D2, rfl, .ref r, rfl, .ref D2, rfl, r, sc, D2, ns, ws7, rfl, R8, hD8, hD2r, hpos, by omega, fun H9 i9 x9 hx9 b9 R9 => ?_⟩
              refine ⟨.ref r, rfl, .ref D2, rfl, r, sc, D2, ns, ws7, rfl, R9, b9 _ _ hD2r hD8, hD2r, hpos, by omega, fun H10 i10 x10 hx10 b10 R10 => ?_⟩
              have b710 := (b78.trans b9).trans b10
              have ev710 : Evo H7 H10 := R7.evoB b710
              obtain ⟨pa, hpa, tpa⟩ := Paired.getL (Tps.evo ev710 hw7) hx9
              obtain ⟨pb, hpb, tpb⟩ := Paired.getL (Tps.evo ev710 hw7) hx10
              have ma := List.mem_of_getElem? hpa
              have mb := List.mem_of_getElem? hpb
              have Pa := G7.ge pa ma
              have Pb := G7.ge pb mb
              have h12 : t.2.1 ≤ 12 := Nat.le_trans B.hi (by decide)
              refine ⟨pa, pb, x9, x10, rfl, tpa, tpb, fun x hx => by rw [Pb.len]; exact Pa.bd x hx, by rw [Pa.len]; exact h12, fun H11 z11 s11 t11 => ⟨small_size (by simp), fun m nm => ?_⟩⟩
              have sm : Same H11 (upd H11 m (.lst [z11])) := same_new nm
              have hD11 := s11 _ _ (b710 _ _ hD2r hD7)
              refine ⟨D2, m, ws7, [z11], rfl, rfl, sm _ _ hD11, upd_same, small_size (by simp; omega), fun p np => ?_⟩
              have sp := same_new (o := .lst (ws7 ++ [z11])) np
              have sall := s11.trans (sm.trans sp)
              have bAll : But1 r H7 (upd (upd H11 m (.lst [z11])) p (.lst (ws7 ++ [z11]))) := b710.same sall
              refine ⟨p, gs ++ [KM.mul pa pb], none, rfl, b07.trans bAll, R10.evo sall, R7.evoB bAll _ _ ha7, ⟨⟨_, upd_same, Paired.snoc (Tps.evo (R7.evoB bAll) hw7) (t11.evo (evo_of_same (sm.trans sp)))⟩, fun g hg => ?_, G7.small.prod G7.ge ma mb, ?_⟩, fun z => ?_⟩
              · rcases List.mem_append.mp hg with c | c
                · exact G7.ge g c
                · rw [List.mem_singleton.mp c]
                  exact Pa.mul Pb
              · rw [List.length_append, List.length_singleton]
                omega
              · obtain ⟨ys, hy⟩ := R10.lst
                rw [z, (s11.trans sm) _ _ hy] at np
                cases np
            · rw [Bool.eq_false_iff.mpr h0]
              exact iteF (skip _ b78 R8)
        · rintro σ H8 ⟨l, gs2, y7, rfl, b8, R8, ha8, G8, hlr⟩
          obtain ⟨ws8, hl8, hw8⟩ := G8.at_
          -- if taken(row, 8) == 0
          refine ⟨fun σ H9 => ∃ (l : Addr) (gs : List (List Nat)) (y7 : Option V), σ = [some (.ref r), some (.int 7), some (.int 168), some (.ref a), some (.ref D), some z6, some (.ref l), y7] ∧ But1 r H H9 ∧ RowAt K H9 r sc ns ∧ H9 a = some (.tup [.int (t.1 : Int), .int (t.2.1 : Int), .ref ga]) ∧ GensAt H9 l t.2.1 6 gs, ?_, ?_⟩
          · refine ⟨.ref r, rfl, r, sc, ns, 8, rfl, R8, by decide, by decide, fun H9 tt htt b9 R9 => ⟨rfl, _, rfl, ?_⟩⟩
            have ev9 : Evo H8 H9 := R8.evoB b9
            have hl9 := b9 _ _ hlr hl8
            by_cases h0 : decide (V.int (tt : Int) = V.int 0) = true
            · rw [h0]
              refine iteT ⟨.ref a, rfl, a, _, 1, .int (t.2.1 : Int), rfl, rfl, SqT.of (ev9 _ _ ha8), rfl, t.2.1, rfl, Nat.le_trans B.hi (by decide), fun H10 z10 s10 t10 => ⟨small_size (by simp), fun m nm => ?_⟩⟩
              have sm : Same H10 (upd H10 m (.lst [z10])) := same_new nm
              have hlen8 : ws8.length = gs2.length := Paired.length hw8
              have hl5 := G8.len
              refine ⟨.ref l, rfl, m, l, [z10], ws8, rfl, rfl, upd_same, sm _ _ (s10 _ _ hl9), small_size (by simp; omega), fun p np => ?_⟩
              have sp := same_new (o := .lst ([z10] ++ ws8)) np
              have sall := s10.trans (sm.trans sp)
              refine ⟨p, KM.unit t.2.1 :: gs2, y7, rfl, (b8.trans b9).same sall, R9.evo sall, sall _ _ (ev9 _ _ ha8), ⟨⟨_, upd_same, .cons (t10.evo (evo_of_same (sm.trans sp))) (Tps.evo (evo_of_same sall) (Tps.evo ev9 hw8))⟩, fun g hg => ?_, G8.small.unit, ?_⟩⟩
              · rcases List.mem_cons.mp hg with rfl | c
                · exact isPerm_unit _
                · exact G8.ge g c
              · rw [List.length_cons]
                omega
            · rw [Bool.eq_false_iff.mpr h0]
              exact iteF ⟨l, gs2, y7, rfl, b8.trans b9, R9, ev9 _ _ ha8, ⟨ws8, hl9, Tps.evo ev9 hw8⟩, G8.ge, G8.small, Nat.le_trans G8.len (by decide)⟩
          · rintro σ H9 ⟨l9, gs9, y7, rfl, b9, R9, ha9, G9⟩
            obtain ⟨ws9, hl9, hw9⟩ := G9.at_
            -- return (told[1], tuple(gens))
            refine ⟨.ref a, rfl, a, _, 1, .int (t.2.1 : Int), rfl, rfl, SqT.of ha9, rfl, .ref l9, rfl, l9, _, rfl, .inl ⟨SqL.of hl9, fun g9 ng9 => ⟨small_size (by simp), fun z nz => ?_⟩⟩⟩
            have sg := same_new (o := .tup ws9) ng9
            have sz := same_new (o := .tup [.int (t.2.1 : Int), .ref g9]) nz
            refine q _ _ t.2.1 gs9 ((b9.same sg).same sz) (R9.evo (sg.trans sz)) ⟨B.lo, B.hi, Nat.le_trans G9.len (by decide), G9.ge, G9.small⟩ ⟨z, .ref g9, rfl, upd_same, g9, ws9, rfl, sz _ _ upd_same, Tps.evo (evo_of_same (sg.trans sz)) hw9⟩
end
end KW
end
section
namespace KW
open PySem PySem.Spec PyProof.Rows L2 KM
theorem ite_c {c : Prop} [Decidable c] {σ : L2.St} {H : Hp} {Q : VK} (h : ∀ e : Nat, e ≤ 1 → Q (.int (e : Int)) H) : if c then tC (.int 1) σ H Q else tC (.int 0) σ H Q := by
  split
  · exact h 1 (Nat.le_refl _)
  · exact h 0 (by decide)
section
variable {P : Program} {w : World} {K : PySem.W.Frag} {mg : Str → Option Value} {base : Heap}
theorem ok_z_group (Z : Defs K mg) : FnOk P w K mg base CX0 4 Z.z_group.f Z.z_group.fd ["_law_row", "_law_degree", "_law_most"] (spKnown K) := by
  have G_z_taken := ok_z_taken (P := P) (w := w) (base := base) Z
  have G_z_known := ok_z_known (P := P) (w := w) (base := base) Z
  have G_z_perm := ok_z_perm (P := P) (w := w) (base := base) Z
  refine Z.z_group.F.ok sc_z_group (fun vs H Q E h => ?_) (fun cdv A outer s H vs Q E hr h => ?_)
  · obtain ⟨r, sc, ns, rfl, _⟩ := h
    rfl
  · obtain ⟨r, sc, ns, rfl, R, q⟩ := h
    have nd := sc_z_group.nd
    refine ⟨_, (pss_cons (ps_if (PW.pt (pw_or (pt_cmpR op_eq (pe_call G_z_taken (hr.mono (by decide)) (by rfl) Z.z_taken.g Z.z_taken.F.kp Z.z_taken.b .nil pass0 (pa_cons (pv 0) (pa_cons pe_int pa_nil))) pe_int (nomark _)) (pw_or1 (pt_cmpR op_lt (pv 2) pe_int (nomark _)))))
        (pss_one (ps_ret (pe_call G_z_known (hr.mono (by decide)) (by rfl) Z.z_known.g Z.z_known.F.kp Z.z_known.b .nil pass0 (pa_cons (pv 0) (pa_cons (pv 1) (pa_cons (pv 2) pa_nil)))))) pss_nil)
      (pss_cons (ps_set (i := 3) nd rfl (.inl rfl) (pe_callB (call_min2 rfl) (by rfl) Z.bare.min boot_min (pa_cons (pv 1) (pa_cons (pe_ifExp (pt_cmpR op_ge (pv 2) pe_int (nomark _)) pe_int pe_int) pa_nil))))
      (pss_cons (ps_set (i := 4) nd rfl (.inr rfl) (pe_op op_add pe_int (pe_call G_z_taken (hr.mono (by decide)) (by rfl) Z.z_taken.g Z.z_taken.F.kp Z.z_taken.b .nil pass0 (pa_cons (pv 0) (pa_cons (pe_op op_sub (pv 3) pe_int) pa_nil)))))
      (pss_one (ps_ret (pe_tup (pa_cons (pv 4) (pa_cons (pe_callTy call_tuple_of (by rfl) Z.bare.tuple boot_tuple (pa_cons (pe_lc (own := [("_law_at", 5)]) (g := gName 5) rfl nd (pi_range1 (by rfl) Z.bare.range (pa_cons (pe_op op_add (pe_call G_z_taken (hr.mono (by decide)) (by rfl) Z.z_taken.g Z.z_taken.F.kp Z.z_taken.b .nil pass0 (pa_cons (pv 0) (pa_cons pe_int pa_nil))) (pe_ifExp (pt_cmpR op_gt (pv 4) pe_int (nomark _)) pe_int pe_int)) pa_nil)) (blkOk_by (N := N_z_group) (sc := defScope s_z_group) (by decide +kernel)) (fun _ _ _ _ _ => pg_name (i := 5) nd rfl (Or.inl rfl)) (fun _ _ _ _ _ => pts_nil) (fun _ _ _ _ _ => (pe_call G_z_perm (hr.mono (by decide)) (by rfl) Z.z_perm.g Z.z_perm.F.kp Z.z_perm.b .nil pass0 (pa_cons (pv 0) (pa_cons (pv 4) pa_nil))))) pa_nil)) pa_nil)))))))), ?_⟩
    refine ⟨.ref r, rfl, r, sc, ns, 2, rfl, R, by decide, by decide, fun H1 t1 ht1 b1 R1 => ⟨rfl, _, rfl, ite2 (fun _ => ?_) (fun _ => ?_)⟩⟩
    · refine iteT ⟨.ref r, rfl, .int 7, rfl, .int 168, rfl, r, sc, ns, rfl, R1, fun H2 z n gens b2 R2 hg hz => ?_⟩
      exact q H2 z n gens (b1.trans b2) R2 hg hz
    · refine ⟨.int 168, rfl, 168, 24, rfl, rfl, _, rfl, ?_⟩
      rw [decide_eq_false (show ¬ (168 : Int) < 24 by decide)]
      refine iteF ⟨.int 7, rfl, .int 168, rfl, 168, 120, rfl, rfl, _, rfl, ?_⟩
      rw [decide_eq_true (show (120 : Int) ≤ 168 by decide)]
      refine iteT ⟨7, 5, rfl, ?_⟩
      rw [if_pos (show (5 : Int) < 7 by decide)]
      -- size = 2 + taken(row, few - 1)
      refine ⟨.ref r, rfl, .int 5, rfl, 5, 1, rfl, rfl, r, sc, ns, 4, rfl, R1, by decide, by decide, fun H2 t ht b2 R2 => ⟨2, (t : Int), rfl, rfl, ?_⟩⟩
      have en : (2 : Int) + (t : Int) = ((2 + t : Nat) : Int) := by omega
      show gName 4 (V.int ((2 : Int) + (t : Int))) _ H2 _
      rw [en]
      generalize hn : 2 + t = n
      have n2 : 2 ≤ n := by omega
      have n5 : n ≤ 5 := by omega
      -- the tuple
      refine ⟨.int (n : Int), rfl, .ref r, rfl, r, sc, ns, 3, rfl, R2, by decide, by decide, fun H3 t2 ht2 b3 R3 => ⟨.int (n : Int), rfl, (n : Int), 2, rfl, rfl, _, rfl, ite_c fun e he => ?_⟩⟩
      refine ⟨(t2 : Int), (e : Int), rfl, rfl, (t2 : Int) + (e : Int), rfl, by omega, by omega, fun D nD => ?_⟩
      obtain ⟨rxs, hrx⟩ := R3.lst
      have hDr : D ≠ r := fun z => by
        rw [z, hrx] at nD
        cases nD
      have b03 := (b1.trans b2).trans b3
      refine lc_range (lo := 0) (n := ((t2 : Int) + (e : Int)).toNat) (fun i H4 => But1 r H3 H4 ∧ RowAt K H4 r sc ns ∧ ∃ ws ps, H4 D = some (.lst ws) ∧ Tps H4 ws ps ∧ Gens n ps ∧ ps.length = i) ?_ ?_ ?_
      · exact ⟨but1_of_same (same_new nD), R3.evo (same_new nD), [], [], upd_same, .nil, fun g hg => (nomatch hg), rfl⟩
      · rintro i H4 hi ⟨b4, R4, ws, ps, hD, hw, hps, hl⟩
        have hwl : ws.length = ps.length := Paired.length hw
        refine ⟨rfl, .ref r, rfl, .int (n : Int), rfl, r, sc, ns, n, rfl, R4, by omega, by omega, fun H5 z p b5 R5 hp hz => ?_⟩
        have hD5 := b5 _ _ hDr hD
        have ev : Evo H5 (upd H5 D (.lst (ws ++ [z]))) := evo_lst hD5
        refine ⟨ws, hD5, small_lt (by omega), but1_put_new (b4.trans b5) nD, R3.put_new R5 nD hD5, ws ++ [z], ps ++ [p], upd_same, Paired.snoc (Tps.evo ev (Tps.evo (R4.evoB b5) hw)) (hz.evo ev), fun g hg => ?_, by rw [List.length_append, hl]; rfl⟩
        rcases List.mem_append.mp hg with c | c
        · exact hps g c
        · rw [List.mem_singleton.mp c]
          exact hp
      · rintro H4 ⟨b4, R4, ws, ps, hD, hw, hps, hl⟩
        refine ⟨D, _, rfl, .inl ⟨SqL.of hD, fun g ng => ⟨small_size (by simp), fun z nz => ?_⟩⟩⟩
        have sg := same_new (o := .tup ws) ng
        have sz := same_new (o := .tup [.int (n : Int), .ref g]) nz
        refine q _ _ n ps (((b03.trans b4).same sg).same sz) (R4.evo (sg.trans sz)) ⟨by omega, by omega, by omega, hps, small_six (by omega) hps⟩ ⟨z, .ref g, rfl, upd_same, g, ws, rfl, sz _ _ upd_same, Tps.evo (evo_of_same (sg.trans sz)) hw⟩
end
end KW
end
section
namespace KW
open PySem PySem.Spec PyProof.Rows L2 KM
section
variable {P : Program} {w : World} {K : PySem.W.Frag} {mg : Str → Option Value} {base : Heap}
def spClo : Sp := fun vs H Q _ => ∃ (n : Nat) (gens : List (List Nat)) (v : V), vs = [.int (n : Int), v] ∧ Tts H v gens ∧ Gens n gens ∧ gens.length ≤ 12 ∧ n ≤ 7 ∧ Small n gens ∧
  ∀ H' l E, Same H H' → Lts H' l E → Clo n gens E → E.length ≤ 1000 → Q (.ref l) H'
/-- between two turns -/
structure CInv (H : Hp) (n : Nat) (gens : List (List Nat)) (l d : Addr) (F : List (List Nat)) (vs : List V) (kvs : List (List L2.Key × V)) (H3 : Hp) : Prop where
  sm : Same H H3
  hl : H3 l = some (.lst vs)
  ps : Tps H3 vs F
  hd : H3 d = some (.dT kvs)
  ks : kvs.map (·.1) = F.map kvS
  nd : F.Nodup
  one : unit n ∈ F
  reach : ∀ x ∈ F, Reach n gens x
theorem ok_z_closure (Z : Defs K mg) : FnOk P w K mg base CX0 2 Z.z_closure.f Z.z_closure.fd ["_law_degree", "_law_gens"] spClo := by
  have G_z_unit := ok_z_unit (P := P) (w := w) (base := base) Z
  have G_z_mul := ok_z_mul (P := P) (w := w) (base := base) Z
  refine Z.z_closure.F.ok sc_z_closure (fun vs H Q E h => ?_) (fun cdv A outer s H vs Q E hr h => ?_)
  · obtain ⟨n, gens, v, rfl, _⟩ := h
    rfl
  · obtain ⟨n, gens, v, rfl, ⟨ga, gvs, rfl, hga, hgp⟩, hG, hgl, hn, hsm, q⟩ := h
    have nd := sc_z_closure.nd
    refine ⟨_, (pss_cons (ps_par3 (i := 2) (j := 3) (l := 4) rfl nd rfl rfl rfl (by decide) (by decide) (by decide) rfl rfl rfl (pa_cons (pe_lst (pa_cons (pe_call G_z_unit (hr.mono (by decide)) (by rfl) Z.z_unit.g Z.z_unit.F.kp Z.z_unit.b .nil pass0 (pa_cons (pv 0) pa_nil)) pa_nil)) (pa_cons (pe_disp1 (hu_of hr) (pe_call G_z_unit (hr.mono (by decide)) (by rfl) Z.z_unit.g Z.z_unit.F.kp Z.z_unit.b .nil pass0 (pa_cons (pv 0) pa_nil)) pe_int) (pa_cons pe_int pa_nil))) (by rfl))
      (pss_cons (ps_for PassesOwn.never rfl (pi_range1 (by rfl) Z.bare.range (pa_cons pe_int pa_nil)) (pg_name (i := 5) nd rfl (.inl rfl))
        (pss_cons (ps_if (pt_cmpR op_eq (pv 4) (pe_callB call_len_seq (by rfl) Z.bare.len PySem.boot_len (pa_cons (pv 2) pa_nil)) (nomark _))
          (pss_one (ps_ret (pv 2))) pss_nil)
        (pss_cons (ps_for PassesOwn.never rfl (pi_tup (pv 1)) (pg_name (i := 6) nd rfl (.inl rfl))
          (pss_cons (ps_set (i := 7) nd rfl (.inl rfl) (pe_call G_z_mul (hr.mono (by decide)) (by rfl) Z.z_mul.g Z.z_mul.F.kp Z.z_mul.b .nil pass0 (pa_cons (pe_ix ix_list (pv 2) (pv 4) (fun _ _ => rfl)) (pa_cons (pv 6) pa_nil))))
          (pss_one (ps_if (pt_cmp (pc_dnotin (hu_of hr) (pv 7) (pv 3)))
            (pss_cons (ps_dput (hu_of hr) (pv 3) (pv 7) (pe_callB call_len_seq (by rfl) Z.bare.len PySem.boot_len (pa_cons (pv 2) pa_nil)) rfl)
            (pss_one (ps_expr (pe_bm PySem.F.plainAttrs_list PySem.F.slot_list_append PySem.F.type_list_append mt_append (pv 2) (pa_cons (pv 7) pa_nil))))) pss_nil))))
        (pss_one (ps_set (i := 4) nd rfl (.inl rfl) (pe_op op_add (pv 4) pe_int))))))
      (pss_one (ps_ret (pv 2))))), ?_⟩
    -- [unit(degree)]
    refine ⟨.int (n : Int), rfl, n, rfl, by omega, fun H1 z1 s1 hz1 => ⟨small_size (by simp), fun l nl => ?_⟩⟩
    -- {unit(degree): 0}
    intro d nd2
    refine ⟨.int (n : Int), rfl, n, rfl, by omega, fun H2 z2 s2 hz2 => ?_⟩
    obtain ⟨b2, rfl, hb2⟩ := hz2
    have e1 : Same H1 (upd H1 l (.lst [z1])) := same_new nl
    have e2 : Same (upd H1 l (.lst [z1])) (upd (upd H1 l (.lst [z1])) d (.dT [])) := same_new nd2
    have hl2 : H2 l = some (.lst [z1]) := s2 _ _ (e2 _ _ upd_same)
    have hd2 : H2 d = some (.dT []) := s2 _ _ upd_same
    have sB : Same H H2 := ((s1.trans e1).trans e2).trans s2
    have hHl : H l = none := s1.free nl
    have hHd : H d = none := (s1.trans e1).free nd2
    have dl : l ≠ d := fun z => by
      rw [z, hd2] at hl2
      cases hl2
    have hz1' : Tp H2 z1 (unit n) := hz1.evo (((evo_of_same e1).trans (evo_of_same e2)).trans (evo_of_same s2))
    refine ⟨hd2, b2, kvS (unit n), rfl, by rw [kvS_map]; exact hb2, _, _, _, rfl, ?_⟩
    have s3 : Same H (upd H2 d (.dT [(kvS (unit n), .int 0)])) := same_put sB hHd
    refine ⟨2000, rfl, by decide, by decide, ?_⟩
    refine for_range (lo := 0) (n := 2000) (fun i σ H3 => ∃ (F : List (List Nat)) (vs : List V) (kvs : List (List L2.Key × V)) (y5 y6 y7 : Option V), σ = [some (.int (n : Int)), some (.ref ga), some (.ref l), some (.ref d), some (.int (i : Int)), y5, y6, y7] ∧ i ≤ F.length ∧ CInv H n gens l d F vs kvs H3 ∧
        ∀ j, j < i → ∀ x, F[j]? = some x → ∀ g ∈ gens, mul x g ∈ F) ?_ ?_ ?_
    · refine ⟨[unit n], [z1], [(kvS (unit n), .int 0)], none, none, none, rfl, Nat.zero_le _, ⟨s3, ?_, .cons (hz1'.evo (evo_dT hd2)) .nil, upd_same, rfl, List.pairwise_singleton _ _, List.mem_singleton_self _, fun x hx => ?_⟩, fun i hi => absurd hi (Nat.not_lt_zero _)⟩
      · rw [upd_ne dl]
        exact hl2
      · rw [List.mem_singleton.mp hx]
        exact .one
    · rintro a σ H3 ha ⟨F, vs, kvs, y5, y6, y7, rfl, haF, I, hcl⟩
      have hlen : vs.length = F.length := Paired.length I.ps
      have hF := hsm.reach I.nd I.reach
      refine ⟨.int (a : Int), rfl, .ref l, rfl, l, vs, rfl, .inl (SqL.of I.hl), rfl, _, rfl, ite2 (fun heq => ?_) (fun hne => ?_)⟩
      · -- return found
        have heq : a = F.length := by
          have := of_decide_eq_true heq
          injection this with this
          omega
        refine ⟨_, rfl, q _ _ F I.sm ⟨vs, I.hl, I.ps⟩ ⟨hG, I.one, fun x hx g hg => ?_, I.nd, I.reach⟩ hF⟩
        obtain ⟨i, hi, rfl⟩ := List.getElem_of_mem hx
        exact hcl i (by omega) _ (List.getElem?_eq_getElem hi) g hg
      · have hlt : a < F.length := by
          have : ¬ (a : Int) = (vs.length : Nat) := fun c => hne (decide_eq_true (congrArg V.int c))
          omega
        obtain ⟨T, hT⟩ : ∃ T, F[a]? = some T := ⟨F[a], List.getElem?_eq_getElem hlt⟩
        have hTF : T ∈ F := List.mem_of_getElem? hT
        have hTp := (I.reach T hTF).perm hG
        refine ⟨.ref ga, rfl, ga, rfl, ⟨_, SqT.of (I.sm _ _ hga)⟩, for_tup (xs := gvs) (fun j σ H4 => ∃ (F' : List (List Nat)) (vs' : List V) (kvs' : List (List L2.Key × V)) (y5 y6 y7 : Option V), σ = [some (.int (n : Int)), some (.ref ga), some (.ref l), some (.ref d), some (.int (a : Int)), y5, y6, y7] ∧ CInv H n gens l d F' vs' kvs' H4 ∧
            (∃ more, F' = F ++ more) ∧ ∀ i, i < j → ∀ g, gens[i]? = some g → mul T g ∈ F') ?_ ?_ ?_ ?_⟩
        · exact ⟨F, vs, kvs, _, _, _, rfl, I, ⟨[], (List.append_nil F).symm⟩, fun i hi => absurd hi (Nat.not_lt_zero _)⟩
        · rintro j σ H4 _ ⟨F', vs', kvs', y5, y6, y7, rfl, J, _⟩
          exact SqT.of (J.sm _ _ hga)
        · rintro j x σ H4 hx ⟨F', vs', kvs', z5, z6, z7, rfl, J, ⟨more, rfl⟩, hdone⟩
          obtain ⟨g, hg, hxg⟩ := Paired.getL (hgp.evo (evo_of_same J.sm)) hx
          have hgm : g ∈ gens := List.mem_of_getElem? hg
          have hlen' : vs'.length = (F ++ more).length := Paired.length J.ps
          have hF' := hsm.reach J.nd J.reach
          have hT' : (F ++ more)[a]? = some T := by
            rw [List.getElem?_append_left hlt]
            exact hT
          obtain ⟨va, hva, hvT⟩ := Paired.getR J.ps hT'
          -- p = mul(found[at], g)
          refine ⟨.ref l, rfl, .int (a : Int), rfl, l, vs', (a : Int), va, rfl, rfl, SqL.of J.hl, atI_nat hva, ?_⟩
          refine ⟨x, rfl, T, g, va, x, rfl, hvT, hxg, fun y hy => by rw [(hG g hgm).len]; exact hTp.bd y hy, by rw [hTp.len]; omega, fun H5 z s5 hz => ?_⟩
          obtain ⟨b, rfl, hb⟩ := hz
          have J5 : CInv H n gens l d (F ++ more) vs' kvs' H5 := ⟨J.sm.trans s5, s5 _ _ J.hl, J.ps.evo (evo_of_same s5), s5 _ _ J.hd, J.ks, J.nd, J.one, J.reach⟩
          have hbk : H5 b = some (.tup ((kvS (mul T g)).map kV)) := by
            rw [kvS_map]
            exact hb
          refine ⟨.ref b, rfl, .ref d, rfl, d, valV kvs' (kvS (mul T g)), rfl, DGet.t J5.hd hbk, _, rfl, ?_⟩
          rw [valV_isSome J5.ks]
          by_cases hin : mul T g ∈ F ++ more
          · rw [decide_eq_true hin]
            refine iteF ⟨F ++ more, vs', kvs', _, _, _, rfl, J5, ⟨more, rfl⟩, fun i hi g2 hg2 => ?_⟩
            rcases Nat.lt_or_ge i j with c | c
            · exact hdone i c g2 hg2
            · rw [show i = j by omega, hg] at hg2
              cases hg2
              exact hin
          · rw [decide_eq_false hin]
            -- seen[p] = len(found)
            refine iteT ⟨.ref l, rfl, l, vs', rfl, .inl (SqL.of J5.hl), .ref d, rfl, .ref b, rfl, d, _, rfl, DPut.t J5.hd hbk ?_, ?_⟩
            · have := congrArg List.length J5.ks
              rw [List.length_map, List.length_map] at this
              exact small_lt (by omega)
            · rw [putK_new _ (valV_none J5.ks hin)]
              have hd5 := J5.hd
              generalize hkv : kvs' ++ [(kvS (mul T g), V.int (vs'.length : Nat))] = kv6
              have hl7 : (upd H5 d (.dT kv6)) l = some (.lst vs') := by
                rw [upd_ne dl]
                exact J5.hl
              refine ⟨.ref l, rfl, .inl ⟨rfl, _, SqL.of hl7⟩, .ref b, rfl, l, vs', .ref b, rfl, rfl, hl7, small_lt (by omega), ?_⟩
              have ev7 : Evo H5 (upd H5 d (.dT kv6)) := evo_dT hd5
              have ev8 := ev7.trans (evo_lst (o := .lst (vs' ++ [.ref b])) hl7)
              refine ⟨F ++ more ++ [mul T g], vs' ++ [.ref b], kv6, _, _, _, rfl, ⟨?_, upd_same, Paired.snoc (J5.ps.evo ev8) ⟨b, rfl, ev8 _ _ hb⟩, ?_, ?_, ?_, ?_, ?_⟩, ⟨more ++ [mul T g], by rw [List.append_assoc]⟩, fun i hi g2 hg2 => ?_⟩
              · exact same_put (same_put J5.sm hHd) hHl
              · rw [upd_ne (Ne.symm dl), upd_same]
              · rw [← hkv, List.map_append, List.map_append, J5.ks]
                rfl
              · exact List.nodup_append.mpr ⟨J5.nd, List.pairwise_singleton _ _, fun x hx y hy e => hin (by rw [← List.mem_singleton.mp hy, ← e]; exact hx)⟩
              · exact List.mem_append.mpr (.inl J5.one)
              · intro U hU
                rcases List.mem_append.mp hU with c | c
                · exact J5.reach U c
                · rw [List.mem_singleton.mp c]
                  exact .step (I.reach T hTF) hgm
              · rcases Nat.lt_or_ge i j with c | c
                · exact List.mem_append.mpr (.inl (hdone i c g2 hg2))
                · rw [show i = j by omega, hg] at hg2
                  cases hg2
                  exact List.mem_append.mpr (.inr (List.mem_singleton_self _))
        · rintro σ H4 ⟨F', vs', kvs', z5, z6, z7, rfl, J, ⟨more, rfl⟩, hdone⟩
          have hgn : gvs.length = gens.length := Paired.length hgp
          -- at = at + 1
          refine ⟨.int (a : Int), rfl, (a : Int), 1, rfl, rfl, F ++ more, vs', kvs', _, z6, z7, rfl, ?_, J, fun i hi U hU g hg => ?_⟩
          · rw [List.length_append]
            omega
          · rcases Nat.lt_or_ge i a with c | c
            · rw [List.getElem?_append_left (by omega)] at hU
              exact List.mem_append.mpr (.inl (hcl i c U hU g hg))
            · have ei : i = a := by omega
              rw [ei, List.getElem?_append_left hlt, hT] at hU
              cases hU
              obtain ⟨j, hj, rfl⟩ := List.getElem_of_mem hg
              exact hdone j (by omega) _ (List.getElem?_eq_getElem hj)
    · rintro σ H3 ⟨F, vs, kvs, y5, y6, y7, rfl, haF, I, hcl⟩
      have hF := hsm.reach I.nd I.reach
      omega
end
end KW
end
section
namespace KW
open PySem PySem.Spec PyProof.Rows L2 KM
theorem kitAny_no {K : PySem.W.Frag} {a b c : String} (h1 : kitB a b = some false) (h2 : kitB a c = some false) : PySem.W.kitAny K (.type a) [.type b, .type c] = some false := by
  unfold PySem.W.kitAny
  rw [kit_ty h1]
  show PySem.W.kitAny K (.type a) [.type c] = some false
  unfold PySem.W.kitAny
  rw [kit_ty h2]
  rfl
theorem kitAny_yes {K : PySem.W.Frag} {a b c : String} (h1 : kitB a b = some true) : PySem.W.kitAny K (.type a) [.type b, .type c] = some true := by
  unfold PySem.W.kitAny
  rw [kit_ty h1]
section
variable {P : Program} {w : World} {K : PySem.W.Frag} {mg : Str → Option Value} {base : Heap}
def spAl : Sp := fun vs H Q _ => ∃ i : Int, vs = [.int i, .int i] ∧ ∀ H', Same H H' → Q (.bl true) H'
def spUp (sp : Sp) : Sp := fun vs H Q _ => ∃ (a b : Addr) (xs ys : List V), vs = [.ref a, .ref b] ∧ H a = some (.tup xs) ∧ H b = some (.tup ys) ∧ xs.length = ys.length ∧ xs.length ≤ 1000 ∧
  (∀ (i : Nat) (x y : V), xs[i]? = some x → ys[i]? = some y → ∀ H1, Same H H1 → ∀ (Q1 : VK) (E1 : XK), (∀ H2, Same H1 H2 → Q1 (.bl true) H2) → sp [x, y] H1 Q1 E1) ∧ ∀ H', Same H H' → Q (.bl true) H'
theorem ok_al0 (Z : Defs K mg) : FnOk P w K mg base CX0 1 Z.z_alike.f Z.z_alike.fd ["_law_found", "_law_due"] spAl := by
  refine Z.z_alike.F.ok sc_z_alike (fun vs H Q E h => ?_) (fun cdv A outer s H vs Q E hr h => ?_)
  · obtain ⟨i, rfl, _⟩ := h
    rfl
  · obtain ⟨i, rfl, q⟩ := h
    have nd := sc_z_alike.nd
    refine ⟨_, (pss_cons (ps_if (pt_val (pe_callB call_isiT (by rfl) Z.bare.isi boot_isinstance (pa_cons (pv 1) (pa_cons (pe_tup (pa_cons (pe_bltn (v := .ty "tuple") (by rfl) Z.bare.tuple boot_tuple rfl) (pa_cons (pe_bltn (v := .ty "list") (by rfl) Z.bare.list boot_list rfl) pa_nil))) pa_nil))))
        pss_never pss_nil)
      (pss_cons (ps_if (PW.pt (pw_or (pt_cmpR op_isN (pv 1) pe_non (nomark _)) (pw_or1 (pt_val (pe_callB call_isi (by rfl) Z.bare.isi boot_isinstance (pa_cons (pv 1) (pa_cons (pe_bltn (v := .ty "str") (by rfl) Z.bare.str boot_str rfl) pa_nil)))))))
        pss_never pss_nil)
      (pss_one (ps_ret (pe_and (pe_callB call_isi (by rfl) Z.bare.isi boot_isinstance (pa_cons (pv 0) (pa_cons (pe_bltn (v := .ty "int") (by rfl) Z.bare.int boot_int rfl) pa_nil))) (pe_and (pe_cmpR op_eq (pe_callB call_isi (by rfl) Z.bare.isi boot_isinstance (pa_cons (pv 0) (pa_cons (pe_bltn (v := .ty "bool") (by rfl) Z.bare.bool boot_bool rfl) pa_nil))) (pe_callB call_isi (by rfl) Z.bare.isi boot_isinstance (pa_cons (pv 1) (pa_cons (pe_bltn (v := .ty "bool") (by rfl) Z.bare.bool boot_bool rfl) pa_nil))) (nomark _)) (pe_one (pe_cmpR op_eq (pv 0) (pv 1) (nomark _))))))))), ?_⟩
    refine ⟨.int i, rfl, small_size (by simp), fun tp ntp => ⟨.int i, tp, _, .type "int", [.type "tuple", .type "list"], false, rfl, upd_same, .cons (.ty _) (.cons (.ty _) .nil), .base (.int i), kitAny_no (by decide +kernel) (by decide +kernel), false, rfl, iteF ?_⟩⟩
    refine ⟨.int i, rfl, rfl, false, rfl, iteF ?_⟩
    refine ⟨.int i, rfl, .int i, .ty "str", .type "int", .type "str", false, rfl, .ty _, .base (.int i), kit_ty (by decide +kernel), false, rfl, iteF ?_⟩
    refine ⟨.int i, rfl, .int i, .ty "int", .type "int", .type "int", true, rfl, .ty _, .base (.int i), kit_ty (by decide +kernel), true, rfl, iteT ?_⟩
    refine ⟨.int i, rfl, .int i, .ty "bool", .type "int", .type "bool", false, rfl, .ty _, .base (.int i), kit_ty (by decide +kernel), ?_⟩
    refine ⟨.int i, rfl, .int i, .ty "bool", .type "int", .type "bool", false, rfl, .ty _, .base (.int i), kit_ty (by decide +kernel), rfl, true, rfl, iteT ?_⟩
    refine ⟨.int i, rfl, .int i, rfl, rfl, ?_⟩
    rw [decide_eq_true (show V.int i = V.int i from rfl)]
    exact q _ (same_new ntp)
theorem ok_up (Z : Defs K mg) {L : Nat} {sp : Sp} (G : FnOk P w K mg base CX0 L Z.z_alike.f Z.z_alike.fd ["_law_found", "_law_due"] sp) : FnOk P w K mg base CX0 (L + 1) Z.z_alike.f Z.z_alike.fd ["_law_found", "_law_due"] (spUp sp) := by
  refine Z.z_alike.F.ok sc_z_alike (fun vs H Q E h => ?_) (fun cdv A outer s H vs Q E hr h => ?_)
  · obtain ⟨a, b, xs, ys, rfl, _⟩ := h
    rfl
  · obtain ⟨a, b, xs, ys, rfl, ha, hb, hlen, hxl, hE, q⟩ := h
    have nd := sc_z_alike.nd
    refine ⟨_, (pss_cons (ps_if (pt_val (pe_callB call_isiT (by rfl) Z.bare.isi boot_isinstance (pa_cons (pv 1) (pa_cons (pe_tup (pa_cons (pe_bltn (v := .ty "tuple") (by rfl) Z.bare.tuple boot_tuple rfl) (pa_cons (pe_bltn (v := .ty "list") (by rfl) Z.bare.list boot_list rfl) pa_nil))) pa_nil))))
        (pss_cons (ps_if (PW.pt (pw_or (pt_not (pt_val (pe_callB call_isiT (by rfl) Z.bare.isi boot_isinstance (pa_cons (pv 0) (pa_cons (pe_tup (pa_cons (pe_bltn (v := .ty "tuple") (by rfl) Z.bare.tuple boot_tuple rfl) (pa_cons (pe_bltn (v := .ty "list") (by rfl) Z.bare.list boot_list rfl) pa_nil))) pa_nil))))) (pw_or1 (pt_cmpR op_ne (pe_callB call_isi (by rfl) Z.bare.isi boot_isinstance (pa_cons (pv 0) (pa_cons (pe_bltn (v := .ty "list") (by rfl) Z.bare.list boot_list rfl) pa_nil))) (pe_callB call_isi (by rfl) Z.bare.isi boot_isinstance (pa_cons (pv 1) (pa_cons (pe_bltn (v := .ty "list") (by rfl) Z.bare.list boot_list rfl) pa_nil))) (nomark _)))))
          pss_never pss_nil)
        (pss_cons (ps_if (pt_cmpR op_ne (pe_callB call_len_seq (by rfl) Z.bare.len PySem.boot_len (pa_cons (pv 0) pa_nil)) (pe_callB call_len_seq (by rfl) Z.bare.len PySem.boot_len (pa_cons (pv 1) pa_nil)) (nomark _))
          pss_never pss_nil)
        (pss_one (ps_ret (pe_cmpR (op_eqD (hr.mono (Nat.zero_le _)).units) (pe_lc (own := [("_law_k", 2)]) (g := gName 2) rfl nd (pi_range1 (by rfl) Z.bare.range (pa_cons (pe_callB call_len_seq (by rfl) Z.bare.len PySem.boot_len (pa_cons (pv 1) pa_nil)) pa_nil)) (blkOk_by (N := N_z_alike) (sc := defScope s_z_alike) (by decide +kernel)) (fun _ _ _ _ _ => pg_name (i := 2) nd rfl (Or.inl rfl)) (fun _ _ _ _ _ => (pts_one (pt_not (pt_val (pe_call G hr (by rfl) Z.z_alike.g Z.z_alike.F.kp Z.z_alike.b .nil pass0 (pa_cons (pe_ix (ixT (K := K)) (pv 0) (pv 2) (fun _ _ => rfl)) (pa_cons (pe_ix (ixT (K := K)) (pv 1) (pv 2) (fun _ _ => rfl)) pa_nil))))))) (fun _ _ _ _ _ => (pv 2))) (pe_lst pa_nil) (nomark _)))))) pss_nil)
      (pss_cons (ps_if (PW.pt (pw_or (pt_cmpR op_isN (pv 1) pe_non (nomark _)) (pw_or1 (pt_val (pe_callB call_isi (by rfl) Z.bare.isi boot_isinstance (pa_cons (pv 1) (pa_cons (pe_bltn (v := .ty "str") (by rfl) Z.bare.str boot_str rfl) pa_nil)))))))
        pss_never pss_nil)
      (pss_one (ps_ret (pe_and (pe_callB call_isi (by rfl) Z.bare.isi boot_isinstance (pa_cons (pv 0) (pa_cons (pe_bltn (v := .ty "int") (by rfl) Z.bare.int boot_int rfl) pa_nil))) (pe_and (pe_cmpR op_eq (pe_callB call_isi (by rfl) Z.bare.isi boot_isinstance (pa_cons (pv 0) (pa_cons (pe_bltn (v := .ty "bool") (by rfl) Z.bare.bool boot_bool rfl) pa_nil))) (pe_callB call_isi (by rfl) Z.bare.isi boot_isinstance (pa_cons (pv 1) (pa_cons (pe_bltn (v := .ty "bool") (by rfl) Z.bare.bool boot_bool rfl) pa_nil))) (nomark _)) (pe_one (pe_cmpR op_eq (pv 0) (pv 1) (nomark _))))))))), ?_⟩
    refine ⟨.ref b, rfl, small_size (by simp), fun tp ntp => ?_⟩
    have s1 := same_new (o := .tup [.ty "tuple", .ty "list"]) ntp
    refine ⟨.ref b, tp, _, .type "tuple", [.type "tuple", .type "list"], true, rfl, upd_same, .cons (.ty _) (.cons (.ty _) .nil), .base (.tup (s1 _ _ hb)), kitAny_yes (by decide +kernel), true, rfl, iteT ?_⟩
    refine ⟨.ref a, rfl, small_size (by simp), fun tp2 ntp2 => ?_⟩
    have s2 := s1.trans (same_new (o := .tup [.ty "tuple", .ty "list"]) ntp2)
    refine ⟨.ref a, tp2, _, .type "tuple", [.type "tuple", .type "list"], true, rfl, upd_same, .cons (.ty _) (.cons (.ty _) .nil), .base (.tup (s2 _ _ ha)), kitAny_yes (by decide +kernel), true, rfl, iteF ?_⟩
    generalize (upd (upd H tp (.tup [.ty "tuple", .ty "list"])) tp2 (.tup [.ty "tuple", .ty "list"])) = H2 at s2 ⊢
    refine ⟨.ref a, rfl, .ref a, .ty "list", .type "tuple", .type "list", false, rfl, .ty _, .base (.tup (s2 _ _ ha)), kit_ty (by decide +kernel), ?_⟩
    refine ⟨.ref b, rfl, .ref b, .ty "list", .type "tuple", .type "list", false, rfl, .ty _, .base (.tup (s2 _ _ hb)), kit_ty (by decide +kernel), rfl, false, by simp, iteF ?_⟩
    refine ⟨.ref a, rfl, a, xs, rfl, .inr (SqT.of (s2 _ _ ha)), .ref b, rfl, b, ys, rfl, .inr (SqT.of (s2 _ _ hb)), rfl, false, by simp [hlen], iteF ?_⟩
    refine ⟨.ref b, rfl, b, ys, rfl, .inr (SqT.of (s2 _ _ hb)), _, rfl, by omega, by omega, fun D nD => ?_⟩
    refine lc_range (lo := 0) (n := ((ys.length : Nat) : Int).toNat) (fun i H4 => Same H2 H4 ∧ H4 D = some (.lst [])) ⟨same_new nD, upd_same⟩ ?_ ?_
    · rintro i H4 hi ⟨s4, hD⟩
      obtain ⟨y, hy⟩ : ∃ y, ys[i]? = some y := ⟨ys[i]'(by omega), List.getElem?_eq_getElem (by omega)⟩
      obtain ⟨x, hx⟩ : ∃ x, xs[i]? = some x := ⟨xs[i]'(by omega), List.getElem?_eq_getElem (by omega)⟩
      have s04 := s2.trans s4
      refine ⟨rfl, .ref a, rfl, .int (0 + (i : Int)), rfl, a, xs, 0 + (i : Int), x, rfl, rfl, SqT.of (s04 _ _ ha), at_of (by omega) hx, ?_⟩
      refine ⟨.ref b, rfl, .int (0 + (i : Int)), rfl, b, ys, 0 + (i : Int), y, rfl, rfl, SqT.of (s04 _ _ hb), at_of (by omega) hy, ?_⟩
      exact hE i x y hx hy _ s04 _ _ fun H5 s5 => ⟨true, rfl, iteF ⟨s4.trans s5, s5 _ _ hD⟩⟩
    · rintro H4 ⟨s4, hD⟩
      refine ⟨small_size (by simp), fun l nl => ?_⟩
      have s5 := same_new (o := .lst []) nl
      refine ⟨.list [], .list [], .lst (SqL.of (s5 _ _ hD)) .nil, .lst (SqL.of upd_same) .nil, dL_shaped [], dL_shaped [], ?_⟩
      rw [show PyData.eqv (.list []) (.list []) = true by simp [PyData.eqv, PyData.eqvAll]]
      exact q _ ((s2.trans s4).trans s5)
theorem al_tp {H : Hp} {v u : V} {S : List Nat} {Q : VK} {E : XK} (h : Tp H v S) (g : Tp H u S) (hl : S.length ≤ 1000) (q : ∀ H', Same H H' → Q (.bl true) H') : spUp spAl [v, u] H Q E := by
  obtain ⟨a, rfl, ha⟩ := h
  obtain ⟨b, rfl, hb⟩ := g
  refine ⟨a, b, iv S, iv S, rfl, ha, hb, rfl, by rw [iv_len]; exact hl, fun i x y hx hy H1 _ Q1 E1 q1 => ?_, q⟩
  rw [hx] at hy
  cases hy
  obtain ⟨n, _, rfl⟩ := iv_get_inv hx
  exact ⟨n, rfl, q1⟩
theorem al_tts {H : Hp} {v u : V} {Ss : List (List Nat)} {Q : VK} {E : XK} (h : Tts H v Ss) (g : Tts H u Ss) (hl : Ss.length ≤ 1000) (hS : ∀ S ∈ Ss, S.length ≤ 1000) (q : ∀ H', Same H H' → Q (.bl true) H') : spUp (spUp spAl) [v, u] H Q E := by
  obtain ⟨a, xs, rfl, ha, hx⟩ := h
  obtain ⟨b, ys, rfl, hb, hy⟩ := g
  have lx : xs.length = Ss.length := Paired.length hx
  have ly : ys.length = Ss.length := Paired.length hy
  refine ⟨a, b, xs, ys, rfl, ha, hb, by omega, by omega, fun i x y hxi hyi H1 s1 Q1 E1 q1 => ?_, q⟩
  obtain ⟨S, hSi, hxS⟩ := Paired.getL hx hxi
  obtain ⟨T, hTi, hyT⟩ := Paired.getL hy hyi
  rw [hSi] at hTi
  cases hTi
  exact al_tp (hxS.evo (evo_of_same s1)) (hyT.evo (evo_of_same s1)) (hS S (List.mem_of_getElem? hSi)) q1
end
end KW
end
section
namespace KW
open PySem PySem.Spec PyProof.Rows L2 KM
theorem iv_flat (S : List Nat) : (iv S).all flatV = true := by
  rw [List.all_eq_true]
  intro x hx
  obtain ⟨i, hi⟩ := List.getElem?_of_mem hx
  obtain ⟨n, _, rfl⟩ := iv_get_inv hi
  rfl
theorem inV_iv (j : Nat) : ∀ S : List Nat, inV (.int (j : Int)) (iv S) = decide (j ∈ S)
  | [] => rfl
  | x :: S => by
    have ih := inV_iv j S
    unfold inV at ih ⊢
    rw [iv_cons, List.any_cons, ih, Bool.eq_iff_iff]
    show (((x : Int) == (j : Int)) || decide (j ∈ S)) = true ↔ _
    rw [Bool.or_eq_true, beq_iff_eq, decide_eq_true_iff, decide_eq_true_iff, List.mem_cons]
    constructor
    · rintro (h | h)
      · exact .inl (by omega)
      · exact .inr h
    · rintro (h | h)
      · exact .inl (by omega)
      · exact .inr h
theorem getD_get {L : List Nat} {k : Nat} (h : k < L.length) : L[k]? = some (L.getD k 0) := by
  rw [List.getD_eq_getElem?_getD, List.getElem?_eq_getElem h]
  rfl
theorem iv_range_succ (g : Nat → Nat) (k : Nat) : iv ((List.range (k + 1)).map g) = iv ((List.range k).map g) ++ [.int (g k : Int)] := by
  rw [List.range_succ, List.map_append, iv_append]
  rfl
/-- the running numbers of the law -/
def runN (E : List (List Nat)) (n i : Nat) : List Nat := (List.range (n + 1)).map fun k => sm (E.take i) fun p => (kept n p).getD k 0
theorem runN_len (E : List (List Nat)) (n i : Nat) : (runN E n i).length = n + 1 := by
  unfold runN
  rw [List.length_map, List.length_range]
theorem runN_get {E : List (List Nat)} {n i k : Nat} (h : k < n + 1) : (runN E n i).getD k 0 = sm (E.take i) fun p => (kept n p).getD k 0 := by
  unfold runN
  rw [List.getD_eq_getElem?_getD, List.getElem?_map, List.getElem?_range h]
  rfl
theorem runN_zero (E : List (List Nat)) (n : Nat) : runN E n 0 = List.replicate (n + 1) 0 := by
  unfold runN
  refine List.ext_getElem? fun k => ?_
  rw [List.getElem?_map, List.getElem?_replicate]
  by_cases h : k < n + 1
  · rw [if_pos h, List.getElem?_range h]
    rfl
  · rw [if_neg h, List.getElem?_eq_none (by rw [List.length_range]; omega)]
    rfl
theorem runN_succ {E : List (List Nat)} {n i : Nat} {p : List Nat} (h : E[i]? = some p) : ((List.range (n + 1)).map fun k => (runN E n i).getD k 0 + (kept n p).getD k 0) = runN E n (i + 1) := by
  refine List.map_congr_left fun k hk => ?_
  rw [runN_get (List.mem_range.mp hk), List.take_add_one, h, sm_append]
  show _ = _ + sm [p] _
  rw [sm_cons, sm_nil]
  rfl
theorem runN_end {n : Nat} {gens E : List (List Nat)} (C : Clo n gens E) {i : Nat} (hi : E.length ≤ i) : (runN E n i).map (· / E.length) = countsL E n := by
  unfold runN countsL
  rw [List.map_map]
  refine List.map_congr_left fun k hk => ?_
  have hk := List.mem_range.mp hk
  show (sm (E.take i) fun p => (kept n p).getD k 0) / E.length = _
  rw [List.take_of_length_le hi, ← C.count k]
  exact congrArg (· / E.length) (sm_congr fun x hx => kept_fixed (C.perm hx) (by omega))
theorem keptGo_succ (n : Nat) (p : List Nat) (i : Nat) : keptGo n p (i + 1) = if i ∈ (keptGo n p i).2 then keptGo n p i else (keptStep n (ring n p i).length (keptGo n p i).1, (keptGo n p i).2 ++ ring n p i) := rfl
theorem ringN_succ (p : List Nat) (pt t : Nat) : ringN p pt (t + 1) = if (ringN p pt t).2 = pt then ringN p pt t else ((ringN p pt t).1 ++ [(ringN p pt t).2], app p (ringN p pt t).2) := rfl
theorem ringN_lt {n : Nat} {p : List Nat} {pt : Nat} (P : IsPerm n p) (h : pt < n) : ∀ t, (ringN p pt t).2 < n
  | 0 => P.lt h
  | t + 1 => by
    rw [ringN_succ]
    split
    · exact ringN_lt P h t
    · exact P.lt (ringN_lt P h t)
theorem ringN_len (p : List Nat) (pt : Nat) : ∀ t, (ringN p pt t).1.length ≤ t + 1
  | 0 => Nat.le_refl _
  | t + 1 => by
    have := ringN_len p pt t
    rw [ringN_succ]
    split
    · omega
    · rw [List.length_append]
      show _ + 1 ≤ _
      omega
theorem keptGo_seen {n : Nat} (p : List Nat) : ∀ i, (keptGo n p i).2.length ≤ i * (n + 1)
  | 0 => Nat.zero_le _
  | i + 1 => by
    have h1 := keptGo_seen (n := n) p i
    have h2 : (ring n p i).length ≤ n + 1 := ringN_len p i n
    rw [keptGo_succ, Nat.succ_mul]
    split
    · omega
    · rw [List.length_append]
      omega
section
variable {P : Program} {w : World} {K : PySem.W.Frag} {mg : Str → Option Value} {base : Heap}
def spNum : Sp := fun vs H Q _ => ∃ (n : Nat) (gens E : List (List Nat)) (l : Addr), vs = [.int (n : Int), .ref l] ∧ Lts H l E ∧ Clo n gens E ∧ E.length ≤ 1000 ∧ n ≤ 7 ∧
  ∀ H' z, Same H H' → Tp H' z (countsL E n) → Q z H'
theorem ok_z_counts (Z : Defs K mg) : FnOk P w K mg base CX0 1 Z.z_counts.f Z.z_counts.fd ["_law_degree", "_law_every"] spNum := by
  refine Z.z_counts.F.ok sc_z_counts (fun vs H Q E h => ?_) (fun cdv A outer s H vs Q E hr h => ?_)
  · obtain ⟨n, gens, E, l, rfl, _⟩ := h
    rfl
  · obtain ⟨n, gens, E, l, rfl, ⟨es, hl, hes⟩, hC, hE, hn, q⟩ := h
    have nd := sc_z_counts.nd
    have hel : es.length = E.length := Paired.length hes
    refine ⟨_, (pss_cons (ps_set (i := 2) nd rfl (.inr rfl) (pe_op op_rep (pe_lst (pa_cons pe_int pa_nil)) (pe_op op_add (pv 0) pe_int)))
      (pss_cons (ps_for PassesOwn.never rfl (pi_list (pv 1)) (pg_name (i := 3) nd rfl (.inl rfl))
        (pss_cons (ps_asg (pe_tup (pa_cons (pe_op op_cat (pe_lst (pa_cons pe_int pa_nil)) (pe_op op_rep (pe_lst (pa_cons pe_int pa_nil)) (pv 0))) (pa_cons (pe_lst pa_nil) pa_nil))) (pg_tup rfl (pgs_cons (pg_name (i := 4) nd rfl (.inr rfl)) (pgs_cons (pg_name (i := 5) nd rfl (.inl rfl)) pgs_nil))))
        (pss_cons (ps_for PassesOwn.never rfl (pi_range1 (by rfl) Z.bare.range (pa_cons (pv 0) pa_nil)) (pg_name (i := 6) nd rfl (.inl rfl))
          (pss_one (ps_if (pt_cmpR op_notIn_seq (pv 6) (pv 5) (by rfl))
            (pss_cons (ps_par (i := 7) (j := 8) rfl nd rfl rfl (by decide) rfl rfl (pa_cons (pe_lst (pa_cons (pv 6) pa_nil)) (pa_cons (pe_ix ix_tup (pv 3) (pv 6) (fun _ _ => rfl)) pa_nil)) (by rfl))
            (pss_cons (ps_for PassesOwn.never rfl (pi_range1 (by rfl) Z.bare.range (pa_cons (pv 0) pa_nil)) (pg_name (i := 9) nd rfl (.inl rfl))
              (pss_one (ps_if (pt_cmpR op_ne (pv 8) (pv 6) (nomark _))
                (pss_cons (ps_expr (pe_bm PySem.F.plainAttrs_list PySem.F.slot_list_append PySem.F.type_list_append mt_append (pv 7) (pa_cons (pv 8) pa_nil)))
                (pss_one (ps_set (i := 8) nd rfl (.inl rfl) (pe_ix ix_tup (pv 3) (pv 8) (fun _ _ => rfl))))) pss_nil)))
            (pss_cons (ps_set (i := 5) nd rfl (.inl rfl) (pe_op op_cat (pv 5) (pv 7)))
            (pss_cons (ps_set (i := 10) nd rfl (.inr rfl) (pe_callB call_len_seq (by rfl) Z.bare.len PySem.boot_len (pa_cons (pv 7) pa_nil)))
            (pss_one (ps_set (i := 4) nd rfl (.inr rfl) (pe_lc (own := [("_law_k", 11)]) (g := gName 11) rfl nd (pi_range1 (by rfl) Z.bare.range (pa_cons (pe_op op_add (pv 0) pe_int) pa_nil)) (blkOk_by (N := N_z_counts) (sc := defScope s_z_counts) (by decide +kernel)) (fun _ _ _ _ _ => pg_name (i := 11) nd rfl (Or.inl rfl)) (fun _ _ _ _ _ => pts_nil) (fun _ _ _ _ _ => (pe_op op_add (pe_ix (ixL (K := K)) (pv 4) (pv 11) (fun _ _ => rfl)) (pe_ifExp (pt_cmpR op_ge (pv 11) (pv 10) (nomark _)) (pe_ix (ixL (K := K)) (pv 4) (pe_op op_sub (pv 11) (pv 10)) (fun _ _ => rfl)) pe_int)))))))))) pss_nil)))
        (pss_one (ps_set (i := 2) nd rfl (.inr rfl) (pe_lc (own := [("_law_k", 11)]) (g := gName 11) rfl nd (pi_range1 (by rfl) Z.bare.range (pa_cons (pe_op op_add (pv 0) pe_int) pa_nil)) (blkOk_by (N := N_z_counts) (sc := defScope s_z_counts) (by decide +kernel)) (fun _ _ _ _ _ => pg_name (i := 11) nd rfl (Or.inl rfl)) (fun _ _ _ _ _ => pts_nil) (fun _ _ _ _ _ => (pe_op op_add (pe_ix (ixL (K := K)) (pv 2) (pv 11) (fun _ _ => rfl)) (pe_ix (ixL (K := K)) (pv 4) (pv 11) (fun _ _ => rfl))))))))))
      (pss_one (ps_ret (pe_callTy call_tuple_of (by rfl) Z.bare.tuple boot_tuple (pa_cons (pe_lc (own := [("_law_many", 12)]) (g := gName 12) rfl nd (pi_list (pv 2)) (blkOk_by (N := N_z_counts) (sc := defScope s_z_counts) (by decide +kernel)) (fun _ _ _ _ _ => pg_name (i := 12) nd rfl (Or.inl rfl)) (fun _ _ _ _ _ => pts_nil) (fun _ _ _ _ _ => (pe_op op_fdiv (pv 12) (pe_callB (lenS (K := K)) (by rfl) Z.bare.len PySem.boot_len (pa_cons (pv 1) pa_nil))))) pa_nil)))))), ?_⟩
    -- found = [0] * (degree + 1)
    refine ⟨small_size (by simp), fun l0 n0 => ⟨.int (n : Int), rfl, (n : Int), 1, rfl, rfl, l0, (n : Int) + 1, _, rfl, rfl, upd_same, by omega, by omega, ?_, fun f nf => ?_⟩⟩
    · exact small_size (by show 1 * ((n : Int) + 1).toNat ≤ 100000; omega)
    have s1 : Same H (upd H l0 (.lst [.int 0])) := same_new n0
    have s2 := s1.trans (same_new (o := .lst (List.replicate ((n : Int) + 1).toNat [V.int 0]).flatten) nf)
    have hf2 : (upd (upd H l0 (.lst [.int 0])) f (.lst (List.replicate ((n : Int) + 1).toNat [V.int 0]).flatten)) f = some (.lst (iv (runN E n 0))) := by
      rw [upd_same, rep_iv, runN_zero, show ((n : Int) + 1).toNat = n + 1 by omega]
    generalize (upd (upd H l0 (.lst [.int 0])) f (.lst (List.replicate ((n : Int) + 1).toNat [V.int 0]).flatten)) = H2 at s2 hf2 ⊢
    -- for p in every
    refine ⟨.ref l, rfl, l, rfl, ⟨_, SqL.of (s2 _ _ hl)⟩, for_list (xs := es) (fun i σ H3 => ∃ (f : Addr) (y3 y4 y5 y6 y7 y8 y9 y10 : Option V), σ = [some (.int (n : Int)), some (.ref l), some (.ref f), y3, y4, y5, y6, y7, y8, y9, y10, none, none] ∧ Same H H3 ∧ H3 f = some (.lst (iv (runN E n i)))) ?_ ?_ ?_ ?_⟩
    · exact ⟨f, _, _, _, _, _, _, _, _, rfl, s2, hf2⟩
    · rintro i σ H3 _ ⟨f, y3, y4, y5, y6, y7, y8, y9, y10, rfl, s3, _⟩
      exact SqL.of (s3 _ _ hl)
    · rintro i x σ H3 hx ⟨f, y3, y4, y5, y6, y7, y8, y9, y10, rfl, s3, hf3⟩
      obtain ⟨p, hp, pa, rfl, hpa⟩ := Paired.getL (hes.evo (evo_of_same s3)) hx
      have hP : IsPerm n p := hC.perm (List.mem_of_getElem? hp)
      have hpl := hP.len
      -- kept, seen = [1] + [0] * degree, []
      refine ⟨small_size (by simp), fun a1 n1 => ⟨small_size (by simp), fun a2 n2 => ⟨.int (n : Int), rfl, a2, (n : Int), _, rfl, rfl, upd_same, by omega, by omega, ?_, fun a3 n3 => ?_⟩⟩⟩
      · exact small_size (by show 1 * ((n : Int)).toNat ≤ 100000; omega)
      have t1 : Same H3 (upd H3 a1 (.lst [.int 1])) := same_new n1
      have t2 := t1.trans (same_new (o := .lst [.int 0]) n2)
      have h13 : (upd (upd H3 a1 (.lst [.int 1])) a2 (.lst [.int 0])) a1 = some (.lst [.int 1]) := (same_new n2) _ _ upd_same
      have h14 := (same_new (o := .lst (List.replicate (n : Int).toNat [V.int 0]).flatten) n3) _ _ h13
      have t3 := t2.trans (same_new (o := .lst (List.replicate (n : Int).toNat [V.int 0]).flatten) n3)
      have h33 : (upd (upd (upd H3 a1 (.lst [.int 1])) a2 (.lst [.int 0])) a3 (.lst (List.replicate (n : Int).toNat [V.int 0]).flatten)) a3 = some (.lst (iv (List.replicate n 0))) := by
        rw [upd_same, rep_iv, Int.toNat_natCast]
      generalize (upd (upd (upd H3 a1 (.lst [.int 1])) a2 (.lst [.int 0])) a3 (.lst (List.replicate (n : Int).toNat [V.int 0]).flatten)) = H4 at t3 h14 h33 ⊢
      refine ⟨a1, a3, _, _, rfl, rfl, h14, h33, small_size (by rw [iv_len, List.length_replicate]; show 1 + n ≤ _; omega), fun kp nkp => ⟨small_size (by simp), fun se nse => ⟨small_size (by simp), fun T nT => ?_⟩⟩⟩
      have u1 := t3.trans (same_new (o := .lst ([V.int 1] ++ iv (List.replicate n 0))) nkp)
      have u2 := u1.trans (same_new (o := .lst []) nse)
      have u3 := u2.trans (same_new (o := .tup [.ref kp, .ref se]) nT)
      have hk5 := (same_new (o := .tup [.ref kp, .ref se]) nT) _ _ ((same_new (o := .lst []) nse) _ _ (upd_same (H := H4) (a := kp) (o := .lst ([V.int 1] ++ iv (List.replicate n 0)))))
      have hs5 := (same_new (o := .tup [.ref kp, .ref se]) nT) _ _ (upd_same (H := (upd H4 kp (.lst ([V.int 1] ++ iv (List.replicate n 0))))) (a := se) (o := .lst []))
      refine ⟨T, _, rfl, SqT.of upd_same, rfl, .ref kp, _, rfl, .ref se, [], rfl, rfl, ?_⟩
      generalize (upd (upd (upd H4 kp (.lst ([V.int 1] ++ iv (List.replicate n 0)))) se (.lst [])) T (.tup [.ref kp, .ref se])) = H5 at u3 hk5 hs5 ⊢
      -- for point in range(degree)
      refine ⟨.int (n : Int), rfl, (n : Int), rfl, by omega, by omega, ?_⟩
      refine for_range (lo := 0) (n := ((n : Int)).toNat) (fun j σ H6 => ∃ (kp se : Addr) (y6 y7 y8 y9 y10 : Option V), σ = [some (.int (n : Int)), some (.ref l), some (.ref f), some (.ref pa), some (.ref kp), some (.ref se), y6, y7, y8, y9, y10, none, none] ∧ Same H3 H6 ∧
        H6 kp = some (.lst (iv (keptGo n p j).1)) ∧ H6 se = some (.lst (iv (keptGo n p j).2))) ?_ ?_ ?_
      · exact ⟨kp, se, _, _, _, _, _, rfl, u3, hk5, hs5⟩
      · rintro j σ H6 hj ⟨kp, se, y6, y7, y8, y9, y10, rfl, s6, hk6, hs6⟩
        have hjn : j < n := by omega
        rw [Int.zero_add]
        refine ⟨.int (j : Int), rfl, .ref se, rfl, se, _, rfl, .inl (SqL.of hs6), rfl, iv_flat _, _, rfl, ?_⟩
        rw [if_pos rfl, inV_iv]
        by_cases hin : j ∈ (keptGo n p j).2
        · rw [decide_eq_true hin]
          refine iteF ⟨kp, se, _, _, _, _, _, rfl, s6, ?_, ?_⟩
          · rw [keptGo_succ, if_pos hin]
            exact hk6
          · rw [keptGo_succ, if_pos hin]
            exact hs6
        · rw [decide_eq_false hin]
          -- ring, x = [point], p[point]
          refine iteT ⟨.int (j : Int), rfl, small_size (by simp), fun r nr => ?_⟩
          have v1 : Same H6 (upd H6 r (.lst [.int (j : Int)])) := same_new nr
          refine ⟨.ref pa, rfl, .int (j : Int), rfl, pa, _, (j : Int), .int (app p j : Int), rfl, rfl, SqT.of ((s6.trans v1) _ _ hpa), atI_nat (iv_app (by omega)), _, _, rfl, ?_⟩
          -- for turn in range(degree)
          refine ⟨.int (n : Int), rfl, (n : Int), rfl, by omega, by omega, ?_⟩
          refine for_range (lo := 0) (n := ((n : Int)).toNat) (fun t σ H7 => ∃ (y9 : Option V), σ = [some (.int (n : Int)), some (.ref l), some (.ref f), some (.ref pa), some (.ref kp), some (.ref se), some (.int (j : Int)), some (.ref r), some (.int ((ringN p j t).2 : Int)), y9, y10, none, none] ∧ Same H6 H7 ∧
            H7 r = some (.lst (iv (ringN p j t).1))) ?_ ?_ ?_
          · exact ⟨_, rfl, v1, upd_same⟩
          · rintro t σ H7 ht ⟨y9, rfl, s7, hr7⟩
            have hxl := ringN_lt hP hjn t
            have hrl := ringN_len p j t
            refine ⟨.int ((ringN p j t).2 : Int), rfl, .int (j : Int), rfl, rfl, _, rfl, ite2 (fun hne => ?_) (fun heq => ?_)⟩
            · have hne : ¬ (ringN p j t).2 = j := fun e => by
                rw [e] at hne
                simp at hne
              refine ⟨.ref r, rfl, .inl ⟨rfl, _, SqL.of hr7⟩, .int ((ringN p j t).2 : Int), rfl, r, _, _, rfl, rfl, hr7, small_lt (by rw [iv_len]; omega), ?_⟩
              have s8 : Same H6 (upd H7 r (.lst (iv (ringN p j t).1 ++ [.int ((ringN p j t).2 : Int)]))) := same_put s7 nr
              refine ⟨.ref pa, rfl, .int ((ringN p j t).2 : Int), rfl, pa, _, ((ringN p j t).2 : Int), .int (app p (ringN p j t).2 : Int), rfl, rfl, SqT.of ((s6.trans s8) _ _ hpa), atI_nat (iv_app (by omega)), some (.int (0 + (t : Int))), ?_, s8, ?_⟩
              · rw [ringN_succ, if_neg hne]
                rfl
              · rw [upd_same, ringN_succ, if_neg hne, iv_append]
                rfl
            · have heq : (ringN p j t).2 = j := by
                by_cases e : (ringN p j t).2 = j
                · exact e
                · exfalso
                  refine heq ?_
                  have : ¬ V.int ((ringN p j t).2 : Int) = V.int (j : Int) := fun c => by
                    injection c with c
                    omega
                  rw [decide_eq_false this]
                  rfl
              refine ⟨some (.int (0 + (t : Int))), ?_, s7, ?_⟩
              · rw [ringN_succ, if_pos heq]
                rfl
              · rw [ringN_succ, if_pos heq]
                exact hr7
          · rintro σ H7 ⟨z9, rfl, s7, hr7⟩
            rw [Int.toNat_natCast] at hr7
            have hr7 : H7 r = some (.lst (iv (ring n p j))) := hr7
            have hrl : (ring n p j).length ≤ n + 1 := ringN_len p j n
            have hsl := keptGo_seen (n := n) p j
            have hsl2 : j * (n + 1) ≤ 7 * 8 := Nat.mul_le_mul (by omega) (by omega)
            -- seen = seen + ring
            refine ⟨.ref se, rfl, .ref r, rfl, se, r, _, _, rfl, rfl, s7 _ _ hs6, hr7, small_size (by rw [iv_len, iv_len]; omega), fun se2 ns2 => ?_⟩
            have s8 : Same H7 (upd H7 se2 (.lst (iv (keptGo n p j).2 ++ iv (ring n p j)))) := same_new ns2
            have hs8 : (upd H7 se2 (.lst (iv (keptGo n p j).2 ++ iv (ring n p j)))) se2 = some (.lst (iv (keptGo n p (j + 1)).2)) := by
              rw [upd_same, keptGo_succ, if_neg hin, iv_append]
            generalize (upd H7 se2 (.lst (iv (keptGo n p j).2 ++ iv (ring n p j)))) = H8 at s8 hs8 ⊢
            have s68 := s7.trans s8
            -- size = len(ring)
            refine ⟨.ref r, rfl, r, _, rfl, .inl (SqL.of (s8 _ _ hr7)), ?_⟩
            rw [iv_len]
            generalize hm : (ring n p j).length = m at *
            -- kept = [...]
            have hkl := keptGo_len n p j
            refine ⟨.int (n : Int), rfl, (n : Int), 1, rfl, rfl, (n : Int) + 1, rfl, by omega, by omega, fun D nD => ?_⟩
            refine lc_range (lo := 0) (n := ((n : Int) + 1).toNat) (fun k H9 => Same H8 H9 ∧ H9 D = some (.lst (iv ((List.range k).map fun k => (keptGo n p j).1.getD k 0 + (if m ≤ k then (keptGo n p j).1.getD (k - m) 0 else 0))))) ⟨same_new nD, upd_same⟩ ?_ ?_
            · rintro k H9 hk ⟨s9, hD⟩
              have hk9 := (s68.trans s9) _ _ hk6
              refine ⟨rfl, .ref kp, rfl, .int (0 + (k : Int)), rfl, kp, _, 0 + (k : Int), .int ((keptGo n p j).1.getD k 0 : Int), rfl, rfl, SqL.of hk9, at_of (j := k) (by omega) (iv_get (getD_get (by omega))), ?_⟩
              have fin : ∀ e : Nat, (if m ≤ k then (keptGo n p j).1.getD (k - m) 0 else 0) = e → ∃ acc, H9 D = some (.lst acc) ∧ acc.length < sizeLine ∧ (Same H8 (upd H9 D (.lst (acc ++ [.int (((keptGo n p j).1.getD k 0 : Int) + (e : Int))]))) ∧
                  (upd H9 D (.lst (acc ++ [.int (((keptGo n p j).1.getD k 0 : Int) + (e : Int))]))) D = some (.lst (iv ((List.range (k + 1)).map fun k => (keptGo n p j).1.getD k 0 + (if m ≤ k then (keptGo n p j).1.getD (k - m) 0 else 0))))) := fun e he => by
                refine ⟨_, hD, small_lt (by rw [iv_len, List.length_map, List.length_range]; omega), same_put s9 nD, ?_⟩
                rw [upd_same, iv_range_succ, he]
                rfl
              refine ⟨.int (0 + (k : Int)), rfl, .int (m : Int), rfl, 0 + (k : Int), (m : Int), rfl, rfl, _, rfl, ite2 (fun hge => ?_) (fun hlt => ?_)⟩
              · have hge : m ≤ k := by
                  have := of_decide_eq_true hge
                  omega
                refine ⟨.ref kp, rfl, .int (0 + (k : Int)), rfl, .int (m : Int), rfl, 0 + (k : Int), (m : Int), rfl, rfl, kp, _, 0 + (k : Int) - (m : Int), .int ((keptGo n p j).1.getD (k - m) 0 : Int), rfl, rfl, SqL.of hk9, at_of (j := k - m) (by omega) (iv_get (getD_get (by omega))), _, _, rfl, rfl, fin _ (if_pos hge)⟩
              · have hlt : ¬ m ≤ k := fun c => hlt (decide_eq_true (by omega))
                exact ⟨_, _, rfl, rfl, fin 0 (if_neg hlt)⟩
            · rintro H9 ⟨s9, hD⟩
              refine ⟨D, se2, _, _, _, _, _, rfl, s6.trans (s68.trans s9), ?_, s9 _ _ hs8⟩
              rw [hD, keptGo_succ, if_neg hin, hm, show ((n : Int) + 1).toNat = n + 1 by omega]
              rfl
      · rintro σ H6 ⟨kp, se, z6, z7, z8, z9, z10, rfl, s6, hk6, hs6⟩
        rw [Int.toNat_natCast] at hk6
        have hk6 : H6 kp = some (.lst (iv (kept n p))) := hk6
        have hf6 := s6 _ _ hf3
        have hkl : (kept n p).length = n + 1 := keptGo_len n p n
        have hrl := runN_len E n i
        refine ⟨.int (n : Int), rfl, (n : Int), 1, rfl, rfl, (n : Int) + 1, rfl, by omega, by omega, fun D nD => ?_⟩
        refine lc_range (lo := 0) (n := ((n : Int) + 1).toNat) (fun k H9 => Same H6 H9 ∧ H9 D = some (.lst (iv ((List.range k).map fun k => (runN E n i).getD k 0 + (kept n p).getD k 0)))) ⟨same_new nD, upd_same⟩ ?_ ?_
        · rintro k H9 hk ⟨s9, hD⟩
          refine ⟨rfl, .ref f, rfl, .int (0 + (k : Int)), rfl, f, _, 0 + (k : Int), .int ((runN E n i).getD k 0 : Int), rfl, rfl, SqL.of (s9 _ _ hf6), at_of (j := k) (by omega) (iv_get (getD_get (by omega))), ?_⟩
          refine ⟨.ref kp, rfl, .int (0 + (k : Int)), rfl, kp, _, 0 + (k : Int), .int ((kept n p).getD k 0 : Int), rfl, rfl, SqL.of (s9 _ _ hk6), at_of (j := k) (by omega) (iv_get (getD_get (by omega))), _, _, rfl, rfl, _, hD, small_lt (by rw [iv_len, List.length_map, List.length_range]; omega), same_put s9 nD, ?_⟩
          rw [upd_same, iv_range_succ]
          rfl
        · rintro H9 ⟨s9, hD⟩
          refine ⟨D, _, _, _, _, _, _, _, _, rfl, s3.trans (s6.trans s9), ?_⟩
          rw [hD, show ((n : Int) + 1).toNat = n + 1 by omega, runN_succ hp]
    · rintro σ H3 ⟨f, y3, y4, y5, y6, y7, y8, y9, y10, rfl, s3, hf3⟩
      have hpos := hC.pos
      refine ⟨.ref f, rfl, f, rfl, ⟨_, SqL.of hf3⟩, fun D nD => ?_⟩
      refine lc_list (xs := iv (runN E n es.length)) (fun k H9 => Same H3 H9 ∧ H9 D = some (.lst (iv (((runN E n es.length).take k).map (· / E.length))))) ⟨same_new nD, upd_same⟩ (fun k H9 _ hP => SqL.of (hP.1 _ _ hf3)) ?_ ?_
      · rintro k x H9 hx ⟨s9, hD⟩
        obtain ⟨m, hm, rfl⟩ := iv_get_inv hx
        have hkl : k < (runN E n es.length).length := (List.getElem?_eq_some_iff.mp hm).1
        rw [runN_len] at hkl
        refine ⟨rfl, .int (m : Int), rfl, .ref l, rfl, l, es, rfl, .inl (SqL.of ((s3.trans s9) _ _ hl)), (m : Int), (es.length : Nat), rfl, rfl, ⟨by omega, by omega⟩, _, hD, small_lt (by rw [iv_len, List.length_map, List.length_take]; omega), same_put s9 nD, ?_⟩
        rw [upd_same, List.take_add_one, hm, List.map_append, iv_append, hel]
        rfl
      · rintro H9 ⟨s9, hD⟩
        rw [iv_len, List.take_length, runN_end hC (by omega)] at hD
        refine ⟨D, _, rfl, .inl ⟨SqL.of hD, fun r nr => ?_⟩⟩
        exact q _ _ ((s3.trans s9).trans (same_new nr)) ⟨r, rfl, upd_same⟩
end
end KW
end
section
namespace KW
open PySem PySem.Spec PyProof.Rows L2 KM
theorem hu65_of {k : Nat} {A : Around} (hr : Room k A) : A.units + 65 < cLine := by
  have := hr.un
  omega
theorem countsL_len (E : List (List Nat)) (n : Nat) : (countsL E n).length = n + 1 := by
  unfold countsL
  rw [List.length_map, List.length_range]
theorem countsL_get {E : List (List Nat)} {n k : Nat} (h : k ≤ n) : (countsL E n)[k]? = some (leasts E n k).length := by
  unfold countsL
  rw [List.getElem?_map, List.getElem?_range (by omega)]
  rfl
theorem countsL_rev {n : Nat} {gens E : List (List Nat)} (C : Clo n gens E) : (countsL E n).reverse = countsL E n := by
  refine List.ext_getElem? fun k => ?_
  by_cases h : k ≤ n
  · rw [List.getElem?_reverse (by rw [countsL_len]; omega), countsL_len, countsL_get h, countsL_get (by omega), show n + 1 - 1 - k = n - k by omega, ← C.comp h]
  · rw [List.getElem?_eq_none (by rw [List.length_reverse, countsL_len]; omega), List.getElem?_eq_none (by rw [countsL_len]; omega)]
theorem leasts_few2 {n k : Nat} {E : List (List Nat)} (hn : n ≤ 7) : (leasts E n k).length < 64 := by
  refine Nat.lt_of_le_of_lt leasts_few ?_
  rw [(ksets_perm n k).length_eq]
  exact ksets_few hn
abbrev TT (H : Hp) : List V → List (List (List Nat)) → Prop := Paired (Tts H)
theorem TT.evo {H H' : Hp} {vs : List V} {Ls : List (List (List Nat))} (e : Evo H H') (h : TT H vs Ls) : TT H' vs Ls := Paired.mapP h fun _ _ z => z.evo e
def Told (H : Hp) (D : Addr) (E : List (List Nat)) (n : Nat) : Prop := ∃ ts, H D = some (.lst ts) ∧ TT H ts ((List.range (n + 1)).map (leasts E n))
theorem Told.get {H : Hp} {D : Addr} {E : List (List Nat)} {n k : Nat} (h : Told H D E n) (hk : k ≤ n) : ∃ ts z, H D = some (.lst ts) ∧ ts[k]? = some z ∧ Tts H z (leasts E n k) := by
  obtain ⟨ts, h1, h2⟩ := h
  obtain ⟨z, h3, h4⟩ := Paired.getR (i := k) (b := leasts E n k) h2 (by rw [List.getElem?_map, List.getElem?_range (by omega)]; rfl)
  exact ⟨ts, z, h1, h3, h4⟩
structure LS (K : PySem.W.Frag) (H : Hp) (r sc : Addr) (ns : List Int) (g : V) (n : Nat) (gens : List (List Nat)) (l : Addr) (E : List (List Nat)) (ch : V) (D : Addr) : Prop where
  row : RowAt K H r sc ns
  gn : Tts H g gens
  ev : Lts H l E
  ct : Tp H ch (countsL E n)
  td : Told H D E n
theorem LS.same {K : PySem.W.Frag} {H H' : Hp} {r sc : Addr} {ns : List Int} {g : V} {n : Nat} {gens : List (List Nat)} {l : Addr} {E : List (List Nat)} {ch : V} {D : Addr} (L : LS K H r sc ns g n gens l E ch D) (s : Same H H') : LS K H' r sc ns g n gens l E ch D :=
  ⟨L.row.evo s, L.gn.evo (evo_of_same s), let ⟨vs, h1, h2⟩ := L.ev; ⟨vs, s _ _ h1, Tps.evo (evo_of_same s) h2⟩, L.ct.evo (evo_of_same s), let ⟨ts, h1, h2⟩ := L.td; ⟨ts, s _ _ h1, TT.evo (evo_of_same s) h2⟩⟩
theorem LS.but1 {K : PySem.W.Frag} {H H' : Hp} {r sc : Addr} {ns : List Int} {g : V} {n : Nat} {gens : List (List Nat)} {l : Addr} {E : List (List Nat)} {ch : V} {D : Addr} (L : LS K H r sc ns g n gens l E ch D) (s : But1 r H H') (R : RowAt K H' r sc ns) (hl : l ≠ r) (hD : D ≠ r) : LS K H' r sc ns g n gens l E ch D :=
  have e := L.row.evoB s
  ⟨R, L.gn.evo e, let ⟨vs, h1, h2⟩ := L.ev; ⟨vs, s _ _ hl h1, Tps.evo e h2⟩, L.ct.evo e, let ⟨ts, h1, h2⟩ := L.td; ⟨ts, s _ _ hD h1, TT.evo e h2⟩⟩
theorem iv_dropLast (S : List Nat) : (iv S).dropLast = iv S.dropLast := by
  unfold iv
  rw [← List.map_dropLast, ← List.map_dropLast]
theorem cut_last (xs : List V) : cutV xs none (some (-1)) = xs.dropLast := by
  unfold cutV
  have h1 : HT.sIx xs.length 0 none = 0 := rfl
  have h2 : HT.sIx xs.length xs.length (some (-1)) = xs.length - 1 := by
    show (if (-1 : Int) < 0 then ((-1 : Int) + (xs.length : Int)).toNat else min (-1 : Int).toNat xs.length) = _
    rw [if_pos (by decide)]
    omega
  rw [h1, h2, List.drop_zero, Nat.sub_zero, List.dropLast_eq_take]
theorem lts_ne_row {K : PySem.W.Frag} {H : Hp} {r sc l : Addr} {ns : List Int} {E : List (List Nat)} (R : RowAt K H r sc ns) (h : Lts H l E) : l ≠ r := fun e => by
  obtain ⟨c1, c2, c3, h1, _⟩ := R.ex
  obtain ⟨vs, h2, h3⟩ := h
  rw [e, h1] at h2
  cases h2
  cases h3 with
  | cons _ h4 =>
    cases h4 with
    | cons h5 _ =>
      obtain ⟨a, h6, _⟩ := h5
      cases h6
section
variable {P : Program} {w : World} {K : PySem.W.Frag} {mg : Str → Option Value} {base : Heap}
theorem it_tp {H : Hp} {S : List Nat} (i : Nat) (x y : V) (hx : (iv S)[i]? = some x) (hy : (iv S)[i]? = some y) (H1 : Hp) (_ : Same H H1) (Q1 : VK) (E1 : XK) (q1 : ∀ H2, Same H1 H2 → Q1 (.bl true) H2) : spAl [x, y] H1 Q1 E1 := by
  rw [hx] at hy
  cases hy
  obtain ⟨n, _, rfl⟩ := iv_get_inv hx
  exact ⟨n, rfl, q1⟩
theorem it_tts {H : Hp} {xs ys : List V} {Ss : List (List Nat)} (hx : Tps H xs Ss) (hy : Tps H ys Ss) (hS : ∀ S ∈ Ss, S.length ≤ 1000) (i : Nat) (x y : V) (hxi : xs[i]? = some x) (hyi : ys[i]? = some y) (H1 : Hp) (s1 : Same H H1) (Q1 : VK) (E1 : XK) (q1 : ∀ H2, Same H1 H2 → Q1 (.bl true) H2) : spUp spAl [x, y] H1 Q1 E1 := by
  obtain ⟨S, hSi, hxS⟩ := Paired.getL hx hxi
  obtain ⟨T, hTi, hyT⟩ := Paired.getL hy hyi
  rw [hSi] at hTi
  cases hTi
  exact al_tp (hxS.evo (evo_of_same s1)) (hyT.evo (evo_of_same s1)) (hS S (List.mem_of_getElem? hSi)) q1
def spLaw (K : PySem.W.Frag) : Sp := fun vs H Q _ => ∃ (a : Addr) (ns : List Int), vs = [.ref a] ∧ SqL K H a (ns.map V.int) ∧ ns.length ≤ 63 ∧ ∀ H', Q (.bl true) H'
theorem ok_law (Z : Defs K mg) : FnOk P w K mg base CX0 7 Z.law.f Z.law.fd ["_law_script"] (spLaw K) := by
  have G_z_group := ok_z_group (P := P) (w := w) (base := base) Z
  have G_z_closure := ok_z_closure (P := P) (w := w) (base := base) Z
  have G_set_counts := ok_set_counts (P := P) (w := w) (base := base) Z
  have G_least_sets := ok_least_sets (P := P) (w := w) (base := base) Z
  have G_z_alike2 := ok_up Z (ok_al0 (P := P) (w := w) (base := base) Z)
  have G_z_alike3 := ok_up Z (ok_up Z (ok_al0 (P := P) (w := w) (base := base) Z))
  have G_z_counts := ok_z_counts (P := P) (w := w) (base := base) Z
  have G_z_taken := ok_z_taken (P := P) (w := w) (base := base) Z
  have G_z_image := ok_z_image (P := P) (w := w) (base := base) Z
  refine Z.law.F.ok sc_law (fun vs H Q E h => ?_) (fun cdv A outer s H vs Q E0 hr h => ?_)
  · obtain ⟨a, ns, rfl, _⟩ := h
    rfl
  · obtain ⟨sc, ns, rfl, hsc, hns, q⟩ := h
    have nd := sc_law.nd
    refine ⟨_, (pss_cons (ps_set (i := 1) nd rfl (.inl rfl) (pe_lst (pa_cons (pv 0) (pa_cons pe_int (pa_cons pe_int (pa_cons pe_int pa_nil))))))
      (pss_cons (ps_set (i := 2) nd rfl (.inr rfl) (pe_call G_z_group (hr.mono (by decide)) (by rfl) Z.z_group.g Z.z_group.F.kp Z.z_group.b .nil pass0 (pa_cons (pv 1) (pa_cons pe_int (pa_cons pe_int pa_nil)))))
      (pss_cons (ps_asg (pv 2) (pg_tup rfl (pgs_cons (pg_name (i := 3) nd rfl (.inl rfl)) (pgs_cons (pg_name (i := 4) nd rfl (.inl rfl)) pgs_nil))))
      (pss_cons (ps_set (i := 5) nd rfl (.inl rfl) (pe_call G_z_closure (hr.mono (by decide)) (by rfl) Z.z_closure.g Z.z_closure.F.kp Z.z_closure.b .nil pass0 (pa_cons (pv 3) (pa_cons (pv 4) pa_nil))))
      (pss_cons (ps_asg (pe_tup (pa_cons (pe_call G_set_counts (hr.mono (by decide)) (by rfl) Z.set_counts.g Z.set_counts.F.kp Z.set_counts.b .nil pass0 (pa_cons (pv 2) pa_nil)) (pa_cons (pe_lc (own := [("_law_size", 6)]) (g := gName 6) rfl nd (pi_range1 (by rfl) Z.bare.range (pa_cons (pe_op op_add (pv 3) pe_int) pa_nil)) (blkOk_by (N := N_law) (sc := defScope s_law) (by decide +kernel)) (fun _ _ _ _ _ => pg_name (i := 6) nd rfl (Or.inl rfl)) (fun _ _ _ _ _ => pts_nil) (fun _ _ _ _ _ => (pe_call G_least_sets (hr.mono (by decide)) (by rfl) Z.least_sets.g Z.least_sets.F.kp Z.least_sets.b .nil pass0 (pa_cons (pv 2) (pa_cons (pv 6) pa_nil))))) pa_nil))) (pg_tup rfl (pgs_cons (pg_name (i := 7) nd rfl (.inl rfl)) (pgs_cons (pg_name (i := 8) nd rfl (.inr rfl)) pgs_nil))))
      (pss_cons (ps_if (PW.pt (pw_or (pt_not (pt_val (pe_call G_z_alike2 (hr.mono (by decide)) (by rfl) Z.z_alike.g Z.z_alike.F.kp Z.z_alike.b .nil pass0 (pa_cons (pv 7) (pa_cons (pe_call G_z_counts (hr.mono (by decide)) (by rfl) Z.z_counts.g Z.z_counts.F.kp Z.z_counts.b .nil pass0 (pa_cons (pv 3) (pa_cons (pv 5) pa_nil))) pa_nil))))) (pw_or1 (pt_cmpR (op_neD (hr.mono (Nat.zero_le _)).units) (pv 7) (pe_revT (pv 7)) (nomark _)))))
        (pss_one (ps_ret pe_bl)) pss_nil)
      (pss_cons (ps_if (pt_not (pt_val (pe_call G_z_alike2 (hr.mono (by decide)) (by rfl) Z.z_alike.g Z.z_alike.F.kp Z.z_alike.b .nil pass0 (pa_cons (pe_callTy call_tuple_of (by rfl) Z.bare.tuple boot_tuple (pa_cons (pe_lc (own := [("_law_some", 13)]) (g := gName 13) rfl nd (pi_list (pv 8)) (blkOk_by (N := N_law) (sc := defScope s_law) (by decide +kernel)) (fun _ _ _ _ _ => pg_name (i := 13) nd rfl (Or.inl rfl)) (fun _ _ _ _ _ => pts_nil) (fun _ _ _ _ _ => (pe_callB (lenS (K := K)) (by rfl) Z.bare.len PySem.boot_len (pa_cons (pv 13) pa_nil)))) pa_nil)) (pa_cons (pv 7) pa_nil)))))
        (pss_one (ps_ret pe_bl)) pss_nil)
      (pss_cons (ps_for PassesOwn.never rfl (pi_range2 (by rfl) Z.bare.range (pa_cons pe_int (pa_cons (pe_op op_add (pv 3) pe_int) pa_nil))) (pg_name (i := 6) nd rfl (.inr rfl))
        (pss_cons (ps_if (pt_cmpR (op_neD (hr.mono (Nat.zero_le _)).units) (pe_lc (own := [("_law_points", 9)]) (g := gName 9) rfl nd (pi_tup (pe_ix ix_list (pv 8) (pv 6) (fun _ _ => rfl))) (blkOk_by (N := N_law) (sc := defScope s_law) (by decide +kernel)) (fun _ _ _ _ _ => pg_name (i := 9) nd rfl (Or.inl rfl)) (fun _ _ _ _ _ => (pts_one (pt_cmpR (notInT (K := K) (hu65_of hr)) (pe_slice (slA (K := K)) (pv 9) po_none (po_some (pe_un un_neg pe_int))) (pe_ix (ixL (K := K)) (pv 8) (pe_op op_sub (pv 6) pe_int) (fun _ _ => rfl)) (by rfl)))) (fun _ _ _ _ _ => (pv 9))) (pe_lst pa_nil) (nomark _))
          (pss_one (ps_ret pe_bl)) pss_nil)
        (pss_one (ps_if (PW.pt (pw_and (pt_cmpR op_le (pe_op op_mul pe_int (pv 6)) (pe_op op_add (pv 3) pe_int) (nomark _)) (pw_and1 (pt_cmpR op_lt (pe_ix ix_tup (pv 7) (pv 6) (fun _ _ => rfl)) (pe_ix ix_tup (pv 7) (pe_op op_sub (pv 6) pe_int) (fun _ _ => rfl)) (nomark _)))))
          (pss_one (ps_ret pe_bl)) pss_nil))))
      (pss_cons (ps_asg (pe_tup (pa_cons (pe_call G_z_taken (hr.mono (by decide)) (by rfl) Z.z_taken.g Z.z_taken.F.kp Z.z_taken.b .nil pass0 (pa_cons (pv 1) (pa_cons (pe_op op_add (pv 3) pe_int) pa_nil))) (pa_cons (pe_lst pa_nil) pa_nil))) (pg_tup rfl (pgs_cons (pg_name (i := 6) nd rfl (.inr rfl)) (pgs_cons (pg_name (i := 10) nd rfl (.inl rfl)) pgs_nil))))
      (pss_cons (ps_set (i := 11) nd rfl (.inl rfl) (pe_lst (pa_cons (pe_tup pa_nil) pa_nil)))
      (pss_cons (ps_for PassesOwn.never rfl (pi_range1 (by rfl) Z.bare.range (pa_cons (pv 3) pa_nil)) (pg_name (i := 12) nd rfl (.inr rfl))
        (pss_one (ps_set (i := 11) nd rfl (.inl rfl) (pe_op op_cat (pv 11) (pe_lc (own := [("_law_some", 13)]) (g := gName 13) rfl nd (pi_list (pv 11)) (blkOk_by (N := N_law) (sc := defScope s_law) (by decide +kernel)) (fun _ _ _ _ _ => pg_name (i := 13) nd rfl (Or.inl rfl)) (fun _ _ _ _ _ => pts_nil) (fun _ _ _ _ _ => (pe_op (catA (K := K)) (pv 13) (pe_tup (pa_cons (pv 12) pa_nil)))))))))
      (pss_cons (ps_for PassesOwn.never rfl (pi_list (pe_callB cr_sortS (by rfl) Z.bare.sorted boot_sorted (pa_cons (pe_lc (own := [("_law_some", 13)]) (g := gName 13) rfl nd (pi_list (pv 11)) (blkOk_by (N := N_law) (sc := defScope s_law) (by decide +kernel)) (fun _ _ _ _ _ => pg_name (i := 13) nd rfl (Or.inl rfl)) (fun _ _ _ _ _ => (pts_one (pt_cmpR op_eq (pe_callB (lenS (K := K)) (by rfl) Z.bare.len PySem.boot_len (pa_cons (pv 13) pa_nil)) (pv 6) (nomark _)))) (fun _ _ _ _ _ => (pv 13))) pa_nil))) (pg_name (i := 9) nd rfl (.inr rfl))
        (pss_one (ps_if (pt_cmpR (op_eqD (hr.mono (Nat.zero_le _)).units) (pe_callB (call_minT rfl (hu_of hr)) (by rfl) Z.bare.min boot_min (pa_cons (pe_op op_cat (pe_lc (own := [("_law_p", 14)]) (g := gName 14) rfl nd (pi_tup (pv 4)) (blkOk_by (N := N_law) (sc := defScope s_law) (by decide +kernel)) (fun _ _ _ _ _ => pg_name (i := 14) nd rfl (Or.inl rfl)) (fun _ _ _ _ _ => pts_nil) (fun _ _ _ _ _ => (pe_call G_z_image (hr.mono (by decide)) (by rfl) Z.z_image.g Z.z_image.F.kp Z.z_image.b .nil pass0 (pa_cons (pv 9) (pa_cons (pv 14) pa_nil))))) (pe_lst (pa_cons (pv 9) pa_nil))) pa_nil)) (pv 9) (nomark _))
          (pss_one (ps_if (pt_cmpR (op_eqD (hr.mono (Nat.zero_le _)).units) (pe_callB (call_minT rfl (hu_of hr)) (by rfl) Z.bare.min boot_min (pa_cons (pe_lc (own := [("_law_p", 14)]) (g := gName 14) rfl nd (pi_list (pv 5)) (blkOk_by (N := N_law) (sc := defScope s_law) (by decide +kernel)) (fun _ _ _ _ _ => pg_name (i := 14) nd rfl (Or.inl rfl)) (fun _ _ _ _ _ => pts_nil) (fun _ _ _ _ _ => (pe_call G_z_image (hr.mono (by decide)) (by rfl) Z.z_image.g Z.z_image.F.kp Z.z_image.b .nil pass0 (pa_cons (pv 9) (pa_cons (pv 14) pa_nil))))) pa_nil)) (pv 9) (nomark _))
            (pss_one (ps_expr (pe_bm PySem.F.plainAttrs_list PySem.F.slot_list_append PySem.F.type_list_append mt_append (pv 10) (pa_cons (pv 9) pa_nil)))) pss_nil)) pss_nil)))
      (pss_one (ps_ret (pe_call G_z_alike3 (hr.mono (by decide)) (by rfl) Z.z_alike.g Z.z_alike.F.kp Z.z_alike.b .nil pass0 (pa_cons (pe_ix ix_list (pv 8) (pv 6) (fun _ _ => rfl)) (pa_cons (pe_callTy call_tuple_of (by rfl) Z.bare.tuple boot_tuple (pa_cons (pv 10) pa_nil)) pa_nil))))))))))))))))), ?_⟩
    -- row = [script, 0, 3086, 0]
    refine ⟨.ref sc, rfl, small_size (by simp), fun r nr => ?_⟩
    have R0 : RowAt K (upd H r (.lst (rowL sc 0 3086 0))) r sc ns := ⟨⟨0, 3086, 0, upd_same, by decide, ⟨by decide, by decide⟩, by decide⟩, (same_new nr).seq hsc, hns⟩
    -- group_here
    refine ⟨.ref r, rfl, r, sc, ns, rfl, R0, fun H1 z n gens b1 R1 hG hg => ?_⟩
    obtain ⟨ga, g, rfl, hga, hgT⟩ := hg
    have hn := hG.hi
    refine ⟨.ref ga, rfl, ga, _, rfl, SqT.of hga, rfl, .int (n : Int), _, rfl, g, [], rfl, rfl, ?_⟩
    -- every
    refine ⟨.int (n : Int), rfl, g, rfl, n, gens, g, rfl, hgT, hG.gs, hG.many, hG.hi, hG.small, fun H2 l E s2 hE hC hE1000 => ?_⟩
    have hg2 : Grp H2 (.ref ga) n gens := ⟨ga, g, rfl, s2 _ _ hga, hgT.evo (evo_of_same s2)⟩
    have R2 := R1.evo s2
    have hlr : l ≠ r := lts_ne_row R2 hE
    -- counts_here, told
    refine ⟨.ref ga, rfl, .ref ga, n, gens, E, rfl, hg2, hG, hC, fun H3 ch s3 hch => ?_⟩
    refine ⟨.int (n : Int), rfl, (n : Int), 1, rfl, rfl, (n : Int) + 1, rfl, by omega, by omega, fun D nD => ?_⟩
    have R3 := R2.evo s3
    have hDr : D ≠ r := fun e => by
      obtain ⟨xs, h⟩ := R3.lst
      rw [e, h] at nD
      cases nD
    refine lc_range (lo := 0) (n := ((n : Int) + 1).toNat) (fun i H4 => Same H3 H4 ∧ ∃ ts, H4 D = some (.lst ts) ∧ TT H4 ts ((List.range i).map (leasts E n))) ⟨same_new nD, [], upd_same, .nil⟩ ?_ ?_
    · rintro i H4 hi ⟨s4, ts, hD, hts⟩
      have htl : ts.length = ((List.range i).map (leasts E n)).length := Paired.length hts
      rw [List.length_map, List.length_range] at htl
      refine ⟨rfl, .ref ga, rfl, .int (0 + (i : Int)), rfl, .ref ga, n, i, gens, E, by rw [Int.zero_add]; rfl, hg2.evo (evo_of_same (s3.trans s4)), hG, hC, by omega, fun H5 z s5 hz => ?_⟩
      have hD5 := s5 _ _ hD
      refine ⟨ts, hD5, small_lt (by omega), same_put (s4.trans s5) nD, ts ++ [z], upd_same, ?_⟩
      have ev : Evo H5 (upd H5 D (.lst (ts ++ [z]))) := evo_lst hD5
      rw [List.range_succ, List.map_append]
      exact Paired.snoc (TT.evo ev (TT.evo (evo_of_same s5) hts)) (hz.evo ev)
    rintro H4 ⟨s4, hT4⟩
    rw [show ((n : Int) + 1).toNat = n + 1 by omega] at hT4
    have hT4 : Told H4 D E n := hT4
    refine ⟨small_size (by simp), fun T nT => ⟨T, _, rfl, SqT.of upd_same, rfl, ch, _, rfl, .ref D, [], rfl, rfl, ?_⟩⟩
    have L : LS K (upd H4 T (.tup [ch, .ref D])) r sc ns g n gens l E ch D := LS.same (H := H4) ⟨R3.evo s4, hgT.evo (evo_of_same ((s2.trans s3).trans s4)), let ⟨vs, h1, h2⟩ := hE; ⟨vs, (s3.trans s4) _ _ h1, Tps.evo (evo_of_same (s3.trans s4)) h2⟩, hch.evo (evo_of_same s4), hT4⟩ (same_new nT)
    clear hT4 hch s4 R3 hE hg2 hga s2 b1 R1 R2 s3 nD
    generalize (upd H4 T (.tup [ch, .ref D])) = H5 at L ⊢
    -- alike(counts_here, counts(degree, every))
    refine ⟨ch, rfl, .int (n : Int), rfl, .ref l, rfl, n, gens, E, l, rfl, L.ev, hC, hE1000, hG.hi, fun H6 z s6 hz => ?_⟩
    obtain ⟨cb, rfl, hcb⟩ := hz
    have hct := L.ct.evo (evo_of_same s6)
    obtain ⟨ca, rfl, hca⟩ := hct
    refine ⟨ca, cb, _, _, rfl, hca, hcb, rfl, by rw [iv_len, countsL_len]; omega, it_tp, fun H7 s7 => ⟨true, rfl, iteF ?_⟩⟩
    replace L := L.same (s6.trans s7)
    clear hcb hca s6 s7
    have hct := L.ct
    obtain ⟨_, ec, hca⟩ := hct
    cases ec
    refine ⟨.ref ca, rfl, .ref ca, rfl, ca, _, rfl, SqT.of hca, fun p np => ?_⟩
    have s8 := same_new (o := .tup (iv (countsL E n)).reverse) np
    refine ⟨dS (countsL E n), dS (countsL E n), dp_tp ⟨ca, rfl, s8 _ _ hca⟩, dp_tp ⟨p, rfl, ?_⟩, dS_shaped _, dS_shaped _, false, ?_, iteF ?_⟩
    · rw [upd_same]
      unfold iv
      rw [← List.map_reverse, ← List.map_reverse, countsL_rev hC]
    · rw [dS_eqv, decide_eq_true rfl]
      rfl
    replace L := L.same s8
    replace hca := s8 _ _ hca
    clear s8
    generalize (upd H7 p (.tup (iv (countsL E n)).reverse)) = H8 at L hca ⊢
    -- the lengths of told
    obtain ⟨ts, hD, hts⟩ := L.td
    have htl : ts.length = ((List.range (n + 1)).map (leasts E n)).length := Paired.length hts
    rw [List.length_map, List.length_range] at htl
    refine ⟨.ref D, rfl, D, rfl, ⟨_, SqL.of hD⟩, fun D2 nD2 => ?_⟩
    refine lc_list (xs := ts) (fun j H9 => Same H8 H9 ∧ H9 D2 = some (.lst (iv ((countsL E n).take j)))) ⟨same_new nD2, upd_same⟩ (fun j H9 _ hP => SqL.of (hP.1 _ _ hD)) ?_ ?_
    · rintro j x H9 hx ⟨s9, hD2⟩
      have hj : j < ts.length := (List.getElem?_eq_some_iff.mp hx).1
      obtain ⟨Ls, hLs, a, ws, rfl, ha, hw⟩ := Paired.getL hts hx
      rw [List.getElem?_map, List.getElem?_range (by omega)] at hLs
      cases hLs
      have hwl : ws.length = (leasts E n j).length := Paired.length hw
      refine ⟨rfl, .ref a, rfl, a, ws, rfl, .inr (SqT.of (s9 _ _ ha)), _, hD2, small_lt (by rw [iv_len, List.length_take]; omega), same_put s9 nD2, ?_⟩
      rw [upd_same, List.take_add_one, countsL_get (by omega), iv_append, hwl]
      rfl
    rintro H9 ⟨s9, hD2⟩
    rw [List.take_of_length_le (by rw [countsL_len]; omega)] at hD2
    refine ⟨D2, _, rfl, .inl ⟨SqL.of hD2, fun tt ntt => ?_⟩⟩
    have s10 := same_new (o := .tup (iv (countsL E n))) ntt
    refine ⟨.ref ca, rfl, ?_⟩
    refine ⟨tt, ca, _, _, rfl, upd_same, (s9.trans s10) _ _ hca, rfl, by rw [iv_len, countsL_len]; omega, it_tp, fun H11 s11 => ⟨true, rfl, iteF ?_⟩⟩
    replace L := L.same ((s9.trans s10).trans s11)
    clear hD2 s9 s10 s11 hD hts htl nD2 ntt np hca
    -- for size in range(1, degree + 1)
    refine ⟨.int (n : Int), rfl, (n : Int), 1, rfl, rfl, 1, (n : Int) + 1, rfl, by omega, ?_⟩
    refine for_range (lo := 1) (n := ((n : Int) + 1 - 1).toNat) (fun i σ H3 => ∃ y6 : Option V, σ = [some (.ref sc), some (.ref r), some (.ref ga), some (.int (n : Int)), some g, some (.ref l), y6, some (.ref ca), some (.ref D), none, none, none, none, none, none] ∧ LS K H3 r sc ns g n gens l E (.ref ca) D) ?_ ?_ ?_
    · exact ⟨_, rfl, L⟩
    · rintro i σ H3 hi ⟨y6, rfl, L⟩
      have hin : i < n := by omega
      rw [show (1 : Int) + (i : Int) = ((i + 1 : Nat) : Int) by omega]
      obtain ⟨ts, z, hD, hz, a2, ws, rfl, ha2, hw⟩ := L.td.get (k := i + 1) (by omega)
      obtain ⟨ts', z0, hD', hz0, hz0T⟩ := L.td.get (k := i) (by omega)
      rw [hD] at hD'
      cases hD'
      refine ⟨.ref D, rfl, .int ((i + 1 : Nat) : Int), rfl, D, ts, ((i + 1 : Nat) : Int), .ref a2, rfl, rfl, SqL.of hD, atI_nat hz, a2, rfl, ⟨_, SqT.of ha2⟩, fun D3 nD3 => ?_⟩
      refine lc_tup (xs := ws) (fun j H7 => Same H3 H7 ∧ H7 D3 = some (.lst [])) ⟨same_new nD3, upd_same⟩ (fun j H7 _ hP => SqT.of (hP.1 _ _ ha2)) ?_ ?_
      · rintro j x H7 hx ⟨s7, hD3⟩
        obtain ⟨S, hS, b, rfl, hb⟩ := Paired.getL hw hx
        have hSm := List.mem_of_getElem? hS
        have hSl : S.length = i + 1 := (mem_leasts.mp hSm).1.len
        have hb7 := s7 _ _ hb
        refine ⟨rfl, .ref b, rfl, 1, rfl, -1, rfl, b, iv S, rfl, SqT.of hb7, fun hh => ?_, fun _ p np => ?_⟩
        · exfalso
          have h2 := hh.2
          rw [iv_len] at h2
          have h3 : HT.sIx S.length S.length (some (-1)) = S.length - 1 := by
            show (if (-1 : Int) < 0 then ((-1 : Int) + (S.length : Int)).toNat else min (-1 : Int).toNat S.length) = _
            rw [if_pos (by decide)]
            omega
          rw [h3] at h2
          omega
        · rw [cut_last, iv_dropLast]
          have s8 := s7.trans (same_new (o := .tup (iv S.dropLast)) np)
          refine ⟨.ref D, rfl, .int ((i + 1 : Nat) : Int), rfl, ((i + 1 : Nat) : Int), 1, rfl, rfl, D, ts, ((i + 1 : Nat) : Int) - 1, z0, rfl, rfl, SqL.of (s8 _ _ hD), at_of (j := i) (by omega) hz0, ?_⟩
          refine ⟨dS S.dropLast, _, dp_tp ⟨p, rfl, upd_same⟩, dp_tts (hz0T.evo (evo_of_same s8)), dS_shaped _, dT_shaped _, false, ?_, iteF ⟨s8, ?_⟩⟩
          · have : ((leasts E n i).map dS).any (fun z => PyData.eqv z (dS S.dropLast)) = true := by
              rw [List.any_eq_true]
              exact ⟨dS S.dropLast, List.mem_map.mpr ⟨_, hC.drop hSm, rfl⟩, by rw [dS_eqv, decide_eq_true rfl]⟩
            rw [this]
            rfl
          · exact (same_new (o := .tup (iv S.dropLast)) np) _ _ hD3
      · rintro H7 ⟨s7, hD3⟩
        refine ⟨small_size (by simp), fun l3 nl3 => ?_⟩
        have s8 := s7.trans (same_new (o := .lst []) nl3)
        have hD8 := (same_new (o := .lst []) nl3) _ _ hD3
        refine ⟨.list [], .list [], .lst (SqL.of hD8) .nil, .lst (SqL.of upd_same) .nil, dL_shaped [], dL_shaped [], false, ?_, iteF ?_⟩
        · rw [show PyData.eqv (.list []) (.list []) = true by simp [PyData.eqv, PyData.eqvAll]]
          rfl
        replace L := L.same s8
        generalize (upd H7 l3 (.lst [])) = H8 at L s8 ⊢
        have hct := L.ct
        obtain ⟨_, ec, hca⟩ := hct
        cases ec
        refine ⟨.int ((i + 1 : Nat) : Int), rfl, 2, ((i + 1 : Nat) : Int), rfl, rfl, .inl (by decide), .int (n : Int), rfl, (n : Int), 1, rfl, rfl, 2 * ((i + 1 : Nat) : Int), (n : Int) + 1, rfl, rfl, _, rfl, ite2 (fun hle => ?_) (fun _ => iteF ⟨_, rfl, L⟩)⟩
        have hle : 2 * (i + 1) ≤ n + 1 := by
          have := of_decide_eq_true hle
          omega
        refine ⟨.ref ca, rfl, .int ((i + 1 : Nat) : Int), rfl, ca, _, ((i + 1 : Nat) : Int), .int ((leasts E n (i + 1)).length : Int), rfl, rfl, SqT.of hca, atI_nat (iv_get (countsL_get (by omega))), ?_⟩
        refine ⟨.ref ca, rfl, .int ((i + 1 : Nat) : Int), rfl, ((i + 1 : Nat) : Int), 1, rfl, rfl, ca, _, ((i + 1 : Nat) : Int) - 1, .int ((leasts E n i).length : Int), rfl, rfl, SqT.of hca, at_of (j := i) (by omega) (iv_get (countsL_get (by omega))), ?_⟩
        have hrise := hC.rise hn hle
        refine ⟨_, _, rfl, rfl, false, ?_, iteF ⟨_, rfl, L⟩⟩
        exact congrArg V.bl (decide_eq_false (by omega))
    rintro σ H3 ⟨y6, rfl, L⟩
    -- size, due = taken(row, degree + 1), []
    refine ⟨.ref r, rfl, .int (n : Int), rfl, (n : Int), 1, rfl, rfl, r, sc, ns, n + 1, rfl, L.row, by omega, by omega, fun H6 k hk b6 R6 => ⟨small_size (by simp), fun du ndu => ⟨small_size (by simp), fun T nT => ⟨T, _, rfl, SqT.of upd_same, rfl, .int (k : Int), _, rfl, .ref du, [], rfl, rfl, ?_⟩⟩⟩⟩
    have L6 : LS K H6 r sc ns g n gens l E (.ref ca) D := L.but1 b6 R6 hlr hDr
    have s7 : Same H6 (upd H6 du (.lst [])) := same_new ndu
    have s8 := s7.trans (same_new (o := .tup [.int (k : Int), .ref du]) nT)
    have hdu8 : (upd (upd H6 du (.lst [])) T (.tup [.int (k : Int), .ref du])) du = some (.lst []) := (same_new nT) _ _ upd_same
    clear L b6 R6 s7 nT
    generalize (upd (upd H6 du (.lst [])) T (.tup [.int (k : Int), .ref du])) = H8 at s8 hdu8 ⊢
    -- sets = [()]
    refine ⟨small_size (by simp), fun t0 nt0 => ⟨small_size (by simp), fun l0 nl0 => ?_⟩⟩
    have s9 : Same H8 (upd (upd H8 t0 (.tup [])) l0 (.lst [.ref t0])) := (same_new nt0).trans (same_new nl0)
    have ht0 : (upd (upd H8 t0 (.tup [])) l0 (.lst [.ref t0])) t0 = some (.tup []) := (same_new nl0) _ _ upd_same
    have hl0 : (upd (upd H8 t0 (.tup [])) l0 (.lst [.ref t0])) l0 = some (.lst [.ref t0]) := upd_same
    generalize (upd (upd H8 t0 (.tup [])) l0 (.lst [.ref t0])) = H9 at s9 ht0 hl0 ⊢
    refine ⟨.int (n : Int), rfl, (n : Int), rfl, by omega, by omega, ?_⟩
    refine for_range (lo := 0) (n := ((n : Nat) : Int).toNat) (fun i σ Ha => ∃ (ls : Addr) (y12 : Option V), σ = [some (.ref sc), some (.ref r), some (.ref ga), some (.int (n : Int)), some g, some (.ref l), some (.int (k : Int)), some (.ref ca), some (.ref D), none, some (.ref du), some (.ref ls), y12, none, none] ∧ Same H8 Ha ∧ Lts Ha ls (subs i)) ?_ ?_ ?_
    · exact ⟨l0, none, rfl, s9, [.ref t0], hl0, .cons ⟨t0, rfl, ht0⟩ .nil⟩
    · rintro i σ Ha hi ⟨ls, y12, rfl, sm, vs, hl, hp⟩
      have hi7 : i ≤ 7 := by omega
      have hlen : vs.length = (subs i).length := Paired.length hp
      have h128 := subs_len hi7
      refine ⟨.ref ls, rfl, .ref ls, rfl, ls, rfl, ⟨_, SqL.of hl⟩, fun D4 nD => ?_⟩
      refine lc_list (xs := vs) (fun j H4 => Same Ha H4 ∧ ∃ ws, H4 D4 = some (.lst ws) ∧ Tps H4 ws (((subs i).take j).map (· ++ [i]))) ⟨same_new nD, [], upd_same, .nil⟩ (fun j H4 _ hP => SqL.of (hP.1 _ _ hl)) ?_ ?_
      · rintro j x H4 hx ⟨s4, ws, hD, hw⟩
        obtain ⟨S, hS, a, rfl, ha⟩ := Paired.getL (hp.evo (evo_of_same s4)) hx
        have hjl : j < (subs i).length := (List.getElem?_eq_some_iff.mp hS).1
        have hwl : ws.length < 100000 := by
          have h1 : ws.length = _ := Paired.length hw
          rw [List.length_map, List.length_take] at h1
          omega
        have hnx : ((subs i).take (j + 1)).map (· ++ [i]) = ((subs i).take j).map (· ++ [i]) ++ [S ++ [i]] := by
          rw [List.take_add_one, hS, List.map_append]
          rfl
        have fin : ∀ H5 z, Same H4 H5 → Tp H5 z (S ++ [i]) → ∃ acc, H5 D4 = some (.lst acc) ∧ acc.length < sizeLine ∧ (Same Ha (upd H5 D4 (.lst (acc ++ [z]))) ∧ ∃ ws, (upd H5 D4 (.lst (acc ++ [z]))) D4 = some (.lst ws) ∧ Tps (upd H5 D4 (.lst (acc ++ [z]))) ws (((subs i).take (j + 1)).map (· ++ [i]))) := by
          intro H5 z s5 hz
          have hD5 := s5 _ _ hD
          refine ⟨ws, hD5, small_lt (by omega), same_put (s4.trans s5) nD, ws ++ [z], upd_same, ?_⟩
          rw [hnx]
          have ev : Evo H5 (upd H5 D4 (.lst (ws ++ [z]))) := evo_lst hD5
          exact Paired.snoc ((hw.evo (evo_of_same s5)).evo ev) (hz.evo ev)
        refine ⟨rfl, .ref a, rfl, .int (0 + (i : Int)), rfl, small_size (by simp), fun t nt => ?_⟩
        have st : Same H4 (upd H4 t (.tup [.int (0 + (i : Int))])) := same_new nt
        have ei : ([.int (0 + (i : Int))] : List V) = iv [i] := by
          rw [Int.zero_add]
          rfl
        refine ⟨a, t, iv S, [.int (0 + (i : Int))], rfl, rfl, SqT.of (st _ _ ha), SqT.of upd_same, ?_, fun he => ?_, fun _ he => (nomatch he), fun _ _ p np => ?_⟩
        · rw [iv_len]
          have := mem_subs.mp (List.mem_of_getElem? hS)
          have := isSet_len (n := i) hi7 ⟨this.1, this.2, rfl⟩
          exact small_size (by simp; omega)
        · have hnil : S = [] := iv_inj he
          refine fin _ _ st ⟨t, rfl, ?_⟩
          rw [upd_same, hnil, ei]
          rfl
        · refine fin _ _ (st.trans (same_new np)) ⟨p, rfl, ?_⟩
          rw [upd_same, iv_append, ei]
      · rintro H4 ⟨s4, ws, hD, hw⟩
        rw [List.take_of_length_le (by omega)] at hw
        have hwl : ws.length = _ := Paired.length hw
        rw [List.length_map] at hwl
        refine ⟨ls, D4, vs, ws, rfl, rfl, s4 _ _ hl, hD, small_size (by omega), fun p np => ?_⟩
        refine ⟨p, _, rfl, (sm.trans s4).trans (same_new np), vs ++ ws, upd_same, ?_⟩
        have ev : Evo H4 (upd H4 p (.lst (vs ++ ws))) := evo_new np
        exact Paired.app2 ((hp.evo (evo_of_same s4)).evo ev) (hw.evo ev)
    rintro σ Ha ⟨ls, y12, rfl, sa, vs, hl, hp⟩
    rw [Int.toNat_natCast] at hp
    have hlen : vs.length = (subs n).length := Paired.length hp
    have h128 := subs_len hn
    -- sorted([..])
    refine ⟨.ref ls, rfl, ls, rfl, ⟨_, SqL.of hl⟩, fun D4 nD => ?_⟩
    refine lc_list (xs := vs) (fun j H4 => Same Ha H4 ∧ ∃ ws, H4 D4 = some (.lst ws) ∧ Tps H4 ws (((subs n).take j).filter fun S => S.length == k)) ⟨same_new nD, [], upd_same, .nil⟩ (fun j H4 _ hP => SqL.of (hP.1 _ _ hl)) ?_ ?_
    · rintro j x H4 hx ⟨s4, ws, hD, hw⟩
      obtain ⟨S, hS, a, rfl, ha⟩ := Paired.getL (hp.evo (evo_of_same s4)) hx
      have hjl : j < (subs n).length := (List.getElem?_eq_some_iff.mp hS).1
      have hwl : ws.length < 100000 := by
        have h1 : ws.length = _ := Paired.length hw
        have h2 := List.length_filter_le (fun S => S.length == k) ((subs n).take j)
        rw [List.length_take] at h2
        omega
      have hnx : ((subs n).take (j + 1)).filter (fun S => S.length == k) = ((subs n).take j).filter (fun S => S.length == k) ++ (if (S.length == k) = true then [S] else []) := by
        rw [List.take_add_one, hS]
        exact filter_snoc _ _ _
      refine ⟨rfl, .ref a, rfl, a, iv S, rfl, .inr (SqT.of ha), .int (k : Int), rfl, rfl, _, rfl, ?_⟩
      rw [dec_int, iv_len]
      by_cases hc : S.length = k
      · have e : (((S.length : Nat) : Int) == (k : Int)) = true := by
          rw [beq_iff_eq]
          omega
        rw [e]
        refine ⟨.ref a, rfl, ws, hD, small_lt (by omega), same_put s4 nD, ws ++ [.ref a], upd_same, ?_⟩
        rw [hnx, if_pos (beq_iff_eq.mpr hc)]
        have ev : Evo H4 (upd H4 D4 (.lst (ws ++ [.ref a]))) := evo_lst hD
        exact Paired.snoc (hw.evo ev) ⟨a, rfl, ev _ _ ha⟩
      · have e : (((S.length : Nat) : Int) == (k : Int)) = false := by
          rw [beq_eq_false_iff_ne]
          omega
        rw [e]
        refine ⟨s4, ws, hD, ?_⟩
        rw [hnx, if_neg (fun c => hc (beq_iff_eq.mp c)), List.append_nil]
        exact hw
    rintro Hb ⟨sb, ws, hD4, hw⟩
    rw [List.take_of_length_le (by omega)] at hw
    refine ⟨D4, ws, (subs n).filter (fun S => S.length == k), k, rfl, SqL.of hD4, hw, ?_, ksets_few hn, fun S hS => ?_, fun ys sl hys nsl => ?_⟩
    · exact (List.Nodup.sublist List.filter_sublist (subs_nd n))
    · obtain ⟨h1, h2⟩ := List.mem_filter.mp hS
      have h3 := mem_subs.mp h1
      exact ⟨beq_iff_eq.mp h2, fun x hx => by have := h3.2 x hx; omega⟩
    have hys : Tps Hb ys (ksets n k) := hys
    have sc8 : Same H8 (upd Hb sl (.lst ys)) := (sa.trans sb).trans (same_new nsl)
    have hys : Tps (upd Hb sl (.lst ys)) ys (ksets n k) := hys.evo (evo_new nsl)
    have hsl : (upd Hb sl (.lst ys)) sl = some (.lst ys) := upd_same
    have hduc := sc8 _ _ hdu8
    have hsd : sl ≠ du := fun e => by
      have := (sa.trans sb) _ _ hdu8
      rw [← e, nsl] at this
      cases this
    have s6c := s8.trans sc8
    generalize (upd Hb sl (.lst ys)) = Hc at sc8 hys hsl hduc s6c ⊢
    have hyl : ys.length = (ksets n k).length := Paired.length hys
    have hevo : ∀ H3, But1 du Hc H3 → Evo Hc H3 := fun H3 b c xs e => b c _ (fun z => by rw [z, hduc] at e; cases e) e
    refine ⟨sl, rfl, ⟨_, SqL.of hsl⟩, for_list (xs := ys) (fun i σ H3 => ∃ y9, σ = [some (.ref sc), some (.ref r), some (.ref ga), some (.int (n : Int)), some g, some (.ref l), some (.int (k : Int)), some (.ref ca), some (.ref D), y9, some (.ref du), some (.ref ls), y12, none, none] ∧ Same H6 H3 ∧ But1 du Hc H3 ∧ ∃ ws, H3 du = some (.lst ws) ∧ Tps H3 ws (((ksets n k).take i).filter (isLeast E))) ?_ ?_ ?_ ?_⟩
    · exact ⟨none, rfl, s6c, But1.refl _ _, [], hduc, .nil⟩
    · rintro i σ H3 _ ⟨y9, rfl, s3, b3, _⟩
      exact SqL.of (b3 _ _ hsd hsl)
    · rintro i x σ H3 hx ⟨y9, rfl, s3, b3, ws, hws, hwp⟩
      obtain ⟨S, hS, b, rfl, hb⟩ := Paired.getL (hys.evo (hevo _ b3)) hx
      have hiS : i < (ksets n k).length := (List.getElem?_eq_some_iff.mp hS).1
      have hset : IsSet n k S := mem_ksets.mp (List.mem_of_getElem? hS)
      have hSl := isSet_len hn hset
      have L := L6.same s3
      have hwl : ws.length < 100000 := by
        have h1 : ws.length = _ := Paired.length hwp
        have h2 := List.length_filter_le (isLeast E) ((ksets n k).take i)
        have h3 : (ksets n k).length < 64 := by
          rw [(ksets_perm n k).length_eq]
          exact ksets_few hn
        rw [List.length_take] at h2
        omega
      have hnx : ((ksets n k).take (i + 1)).filter (isLeast E) = ((ksets n k).take i).filter (isLeast E) ++ (if isLeast E S = true then [S] else []) := by
        rw [List.take_add_one, hS]
        exact filter_snoc _ _ _
      have skip : ∀ H4, Same H3 H4 → isLeast E S = false → Same H6 H4 ∧ But1 du Hc H4 ∧ ∃ ws, H4 du = some (.lst ws) ∧ Tps H4 ws (((ksets n k).take (i + 1)).filter (isLeast E)) := fun H4 s4 hf => by
        refine ⟨s3.trans s4, b3.same s4, ws, s4 _ _ hws, ?_⟩
        rw [hnx, hf, if_neg Bool.false_ne_true, List.append_nil]
        exact hwp.evo (evo_of_same s4)
      -- the images by the generators
      obtain ⟨gb, gvs, rfl, hgb, hgp⟩ := L.gn
      have hgl : gvs.length = gens.length := Paired.length hgp
      have hg12 := hG.many
      refine ⟨_, rfl, gb, rfl, ⟨_, SqT.of hgb⟩, fun D5 nD5 => ?_⟩
      refine lc_tup (xs := gvs) (fun j H4 => Same H3 H4 ∧ ∃ ws, H4 D5 = some (.lst ws) ∧ Tps H4 ws ((gens.take j).map fun p => img p S)) ⟨same_new nD5, [], upd_same, .nil⟩ (fun j H4 _ hP => SqT.of (hP.1 _ _ hgb)) ?_ ?_
      · rintro j x H4 hx ⟨s4, us, hD5, hus⟩
        obtain ⟨p, hp, hxp⟩ := Paired.getL (hgp.evo (evo_of_same s4)) hx
        have hjl : j < gvs.length := (List.getElem?_eq_some_iff.mp hx).1
        have hul : us.length = _ := Paired.length hus
        rw [List.length_map, List.length_take] at hul
        have hpp := hG.gs p (List.mem_of_getElem? hp)
        refine ⟨rfl, .ref b, rfl, x, rfl, S, p, .ref b, x, rfl, ⟨b, rfl, s4 _ _ hb⟩, hxp, fun y hy => by rw [hpp.len]; exact hset.bd y hy, by omega, fun H5 z s5 hz => ?_⟩
        have hD55 := s5 _ _ hD5
        refine ⟨us, hD55, small_lt (by omega), same_put (s4.trans s5) nD5, us ++ [z], upd_same, ?_⟩
        have ev : Evo H5 (upd H5 D5 (.lst (us ++ [z]))) := evo_lst hD55
        rw [List.take_add_one, hp, List.map_append]
        exact Paired.snoc ((hus.evo (evo_of_same s5)).evo ev) (hz.evo ev)
      rintro H4 ⟨s4, us, hD5, hus⟩
      rw [List.take_of_length_le (by omega)] at hus
      have hul : us.length = _ := Paired.length hus
      rw [List.length_map] at hul
      refine ⟨.ref b, rfl, small_size (by simp), fun l5 nl5 => ?_⟩
      have t1 := same_new (o := .lst [.ref b]) nl5
      refine ⟨D5, l5, us, [.ref b], rfl, rfl, t1 _ _ hD5, upd_same, small_size (by simp; omega), fun l6 nl6 => ?_⟩
      have t2 := t1.trans (same_new (o := .lst (us ++ [.ref b])) nl6)
      have s6 := s4.trans t2
      have hl6 : (upd (upd H4 l5 (.lst [.ref b])) l6 (.lst (us ++ [.ref b]))) l6 = some (.lst (us ++ [.ref b])) := upd_same
      generalize (upd (upd H4 l5 (.lst [.ref b])) l6 (.lst (us ++ [.ref b]))) = H5 at t2 s6 hl6 ⊢
      have hb5 : Tp H5 (.ref b) S := ⟨b, rfl, s6 _ _ hb⟩
      refine ⟨l6, us ++ [.ref b], (gens.map fun p => img p S) ++ [S], rfl, SqL.of hl6, Paired.snoc (hus.evo (evo_of_same t2)) hb5, by simp, fun m M hm hM hmM hleast => ?_⟩
      refine ⟨.ref b, rfl, dS M, dS S, dp_tp hmM, dp_tp hb5, dS_shaped _, dS_shaped _, _, rfl, ?_⟩
      rw [dS_eqv]
      by_cases hMS : M = S
      · rw [decide_eq_true hMS]
        refine iteT ?_
        have L5 := L6.same (s3.trans s6)
        obtain ⟨es, hes, hep⟩ := L5.ev
        have hel : es.length = E.length := Paired.length hep
        refine ⟨.ref l, rfl, l, rfl, ⟨_, SqL.of hes⟩, fun D6 nD6 => ?_⟩
        refine lc_list (xs := es) (fun j H7 => Same H5 H7 ∧ ∃ ws, H7 D6 = some (.lst ws) ∧ Tps H7 ws ((E.take j).map fun p => img p S)) ⟨same_new nD6, [], upd_same, .nil⟩ (fun j H7 _ hP => SqL.of (hP.1 _ _ hes)) ?_ ?_
        · rintro j x H7 hx ⟨s7, us, hD6, hus⟩
          obtain ⟨p, hp, hxp⟩ := Paired.getL (hep.evo (evo_of_same s7)) hx
          have hjl : j < es.length := (List.getElem?_eq_some_iff.mp hx).1
          have hul : us.length = _ := Paired.length hus
          rw [List.length_map, List.length_take] at hul
          have hpp := hC.perm (List.mem_of_getElem? hp)
          refine ⟨rfl, .ref b, rfl, x, rfl, S, p, .ref b, x, rfl, hb5.evo (evo_of_same s7), hxp, fun y hy => by rw [hpp.len]; exact hset.bd y hy, by omega, fun H8 z s8 hz => ?_⟩
          have hD65 := s8 _ _ hD6
          refine ⟨us, hD65, small_lt (by omega), same_put (s7.trans s8) nD6, us ++ [z], upd_same, ?_⟩
          have ev : Evo H8 (upd H8 D6 (.lst (us ++ [z]))) := evo_lst hD65
          rw [List.take_add_one, hp, List.map_append]
          exact Paired.snoc ((hus.evo (evo_of_same s8)).evo ev) (hz.evo ev)
        rintro H7 ⟨s7, us, hD6, hus⟩
        rw [List.take_of_length_le (by omega)] at hus
        have hul : us.length = _ := Paired.length hus
        rw [List.length_map] at hul
        have hpos := hC.pos
        have hb7 := hb5.evo (evo_of_same s7)
        refine ⟨D6, us, E.map fun p => img p S, rfl, SqL.of hD6, hus, fun z => by rw [z] at hul; simp at hul; omega, fun m2 M2 hm2 hM2 hmM2 hleast2 => ?_⟩
        refine ⟨.ref b, rfl, dS M2, dS S, dp_tp hmM2, dp_tp hb7, dS_shaped _, dS_shaped _, _, rfl, ?_⟩
        rw [dS_eqv]
        have hiff := hC.least_iff hset hM2 hleast2
        by_cases hMS2 : M2 = S
        · rw [decide_eq_true hMS2]
          have s37 := s6.trans s7
          have hws7 := s37 _ _ hws
          refine iteT ⟨.ref du, rfl, .inl ⟨rfl, _, SqL.of hws7⟩, .ref b, rfl, du, ws, .ref b, rfl, rfl, hws7, small_lt (by omega), ?_⟩
          have ev : Evo H7 (upd H7 du (.lst (ws ++ [.ref b]))) := evo_lst hws7
          refine ⟨_, rfl, same_put (s3.trans s37) ndu, (b3.same s37).trans But1.put, ws ++ [.ref b], upd_same, ?_⟩
          rw [hnx, if_pos (hiff.mp hMS2)]
          exact Paired.snoc (Tps.evo ev (hwp.evo (evo_of_same s37))) (hb7.evo ev)
        · rw [decide_eq_false hMS2]
          refine iteF ⟨_, rfl, skip _ (s6.trans s7) ?_⟩
          cases hq : isLeast E S with
          | false => rfl
          | true => exact absurd (hiff.mpr hq) hMS2
      · rw [decide_eq_false hMS]
        refine iteF ⟨_, rfl, skip _ s6 ?_⟩
        cases hq : isLeast E S with
        | false => rfl
        | true => exact absurd (hC.least_first hM hleast hq) hMS
    · rintro σ H3 ⟨y9, rfl, s3, b3, ws, hws, hwp⟩
      rw [List.take_of_length_le (by omega)] at hwp
      have hwp : Tps H3 ws (leasts E n k) := hwp
      obtain ⟨ts, z, hD, hz, hzT⟩ := (L6.same s3).td.get (k := k) (by omega)
      refine ⟨.ref D, rfl, .int (k : Int), rfl, D, ts, (k : Int), z, rfl, rfl, SqL.of hD, atI_nat hz, .ref du, rfl, du, ws, rfl, .inl ⟨SqL.of hws, fun tt ntt => ?_⟩⟩
      have s5 := same_new (o := .tup ws) ntt
      have hfew := leasts_few2 (E := E) (k := k) hn
      obtain ⟨za, zs, rfl, hza, hzs⟩ := hzT
      have h1 : zs.length = _ := Paired.length hzs
      have h2 : ws.length = _ := Paired.length hwp
      exact ⟨za, tt, zs, ws, rfl, s5 _ _ hza, upd_same, by omega, by omega, it_tts (hzs.evo (evo_of_same s5)) (hwp.evo (evo_of_same s5)) (fun S hS => by have := isSet_len hn (mem_leasts.mp hS).1; omega), fun H' _ => q H'⟩
end
end KW
end
section
namespace KW
open PySem PySem.Spec PyProof.Rows L2 KM
/-! ### what the top has written; the law's own head -/
def mk_is_int {K : PySem.W.Frag} {h : Heap} {mg : Str → Option Value} (X : K.In h) (G : h.Ns mainGlobals mg) {f : Addr} {od an : Option Addr} {sl : Array (Option Value)} {oc kV dc pm cd ct : Value}
    (a : PySem.W.nsIn K mainGlobals "is_int" = some (some (.ref f))) (l : K.lookup f = some ⟨oc, od, .func (PySem.W.fnOf "is_int" "is_int" (defArgs s_is_int) (defBody s_is_int) (defScope s_is_int) .none kV dc pm an cd ct), sl⟩) (c : PySem.W.codeIn K cd "is_int" = true) (k : PySem.W.keepIn K (.ref f) = true) :
    Dfn K mg "is_int" s_is_int ["value"] :=
  ⟨f, PySem.W.fnOf "is_int" "is_int" (defArgs s_is_int) (defBody s_is_int) (defScope s_is_int) .none kV dc pm an cd ct, fun_mk (st := s_is_int) l c k, PySem.W.mg_of X G a, (fun_mk (st := s_is_int) l c k).binds (ps := ["value"]) fun _ _ _ _ _ _ us hl => match us, hl with | [_], _ => rfl⟩
def mk_is_in {K : PySem.W.Frag} {h : Heap} {mg : Str → Option Value} (X : K.In h) (G : h.Ns mainGlobals mg) {f : Addr} {od an : Option Addr} {sl : Array (Option Value)} {oc kV dc pm cd ct : Value}
    (a : PySem.W.nsIn K mainGlobals "is_in" = some (some (.ref f))) (l : K.lookup f = some ⟨oc, od, .func (PySem.W.fnOf "is_in" "is_in" (defArgs s_is_in) (defBody s_is_in) (defScope s_is_in) .none kV dc pm an cd ct), sl⟩) (c : PySem.W.codeIn K cd "is_in" = true) (k : PySem.W.keepIn K (.ref f) = true) :
    Dfn K mg "is_in" s_is_in ["value", "least", "most"] :=
  ⟨f, PySem.W.fnOf "is_in" "is_in" (defArgs s_is_in) (defBody s_is_in) (defScope s_is_in) .none kV dc pm an cd ct, fun_mk (st := s_is_in) l c k, PySem.W.mg_of X G a, (fun_mk (st := s_is_in) l c k).binds (ps := ["value", "least", "most"]) fun _ _ _ _ _ _ us hl => match us, hl with | [_, _, _], _ => rfl⟩
def mk_is_perm {K : PySem.W.Frag} {h : Heap} {mg : Str → Option Value} (X : K.In h) (G : h.Ns mainGlobals mg) {f : Addr} {od an : Option Addr} {sl : Array (Option Value)} {oc kV dc pm cd ct : Value}
    (a : PySem.W.nsIn K mainGlobals "is_perm" = some (some (.ref f))) (l : K.lookup f = some ⟨oc, od, .func (PySem.W.fnOf "is_perm" "is_perm" (defArgs s_is_perm) (defBody s_is_perm) (defScope s_is_perm) .none kV dc pm an cd ct), sl⟩) (c : PySem.W.codeIn K cd "is_perm" = true) (k : PySem.W.keepIn K (.ref f) = true) :
    Dfn K mg "is_perm" s_is_perm ["degree", "value"] :=
  ⟨f, PySem.W.fnOf "is_perm" "is_perm" (defArgs s_is_perm) (defBody s_is_perm) (defScope s_is_perm) .none kV dc pm an cd ct, fun_mk (st := s_is_perm) l c k, PySem.W.mg_of X G a, (fun_mk (st := s_is_perm) l c k).binds (ps := ["degree", "value"]) fun _ _ _ _ _ _ us hl => match us, hl with | [_, _], _ => rfl⟩
def mk_need_group {K : PySem.W.Frag} {h : Heap} {mg : Str → Option Value} (X : K.In h) (G : h.Ns mainGlobals mg) {f : Addr} {od an : Option Addr} {sl : Array (Option Value)} {oc kV dc pm cd ct : Value}
    (a : PySem.W.nsIn K mainGlobals "need_group" = some (some (.ref f))) (l : K.lookup f = some ⟨oc, od, .func (PySem.W.fnOf "need_group" "need_group" (defArgs s_need_group) (defBody s_need_group) (defScope s_need_group) .none kV dc pm an cd ct), sl⟩) (c : PySem.W.codeIn K cd "need_group" = true) (k : PySem.W.keepIn K (.ref f) = true) :
    Dfn K mg "need_group" s_need_group ["group"] :=
  ⟨f, PySem.W.fnOf "need_group" "need_group" (defArgs s_need_group) (defBody s_need_group) (defScope s_need_group) .none kV dc pm an cd ct, fun_mk (st := s_need_group) l c k, PySem.W.mg_of X G a, (fun_mk (st := s_need_group) l c k).binds (ps := ["group"]) fun _ _ _ _ _ _ us hl => match us, hl with | [_], _ => rfl⟩
def mk_image_of {K : PySem.W.Frag} {h : Heap} {mg : Str → Option Value} (X : K.In h) (G : h.Ns mainGlobals mg) {f : Addr} {od an : Option Addr} {sl : Array (Option Value)} {oc kV dc pm cd ct : Value}
    (a : PySem.W.nsIn K mainGlobals "image_of" = some (some (.ref f))) (l : K.lookup f = some ⟨oc, od, .func (PySem.W.fnOf "image_of" "image_of" (defArgs s_image_of) (defBody s_image_of) (defScope s_image_of) .none kV dc pm an cd ct), sl⟩) (c : PySem.W.codeIn K cd "image_of" = true) (k : PySem.W.keepIn K (.ref f) = true) :
    Dfn K mg "image_of" s_image_of ["points", "p"] :=
  ⟨f, PySem.W.fnOf "image_of" "image_of" (defArgs s_image_of) (defBody s_image_of) (defScope s_image_of) .none kV dc pm an cd ct, fun_mk (st := s_image_of) l c k, PySem.W.mg_of X G a, (fun_mk (st := s_image_of) l c k).binds (ps := ["points", "p"]) fun _ _ _ _ _ _ us hl => match us, hl with | [_, _], _ => rfl⟩
def mk_set_ways {K : PySem.W.Frag} {h : Heap} {mg : Str → Option Value} (X : K.In h) (G : h.Ns mainGlobals mg) {f : Addr} {od an : Option Addr} {sl : Array (Option Value)} {oc kV dc pm cd ct : Value}
    (a : PySem.W.nsIn K mainGlobals "set_ways" = some (some (.ref f))) (l : K.lookup f = some ⟨oc, od, .func (PySem.W.fnOf "set_ways" "set_ways" (defArgs s_set_ways) (defBody s_set_ways) (defScope s_set_ways) .none kV dc pm an cd ct), sl⟩) (c : PySem.W.codeIn K cd "set_ways" = true) (k : PySem.W.keepIn K (.ref f) = true) :
    Dfn K mg "set_ways" s_set_ways ["gens", "points"] :=
  ⟨f, PySem.W.fnOf "set_ways" "set_ways" (defArgs s_set_ways) (defBody s_set_ways) (defScope s_set_ways) .none kV dc pm an cd ct, fun_mk (st := s_set_ways) l c k, PySem.W.mg_of X G a, (fun_mk (st := s_set_ways) l c k).binds (ps := ["gens", "points"]) fun _ _ _ _ _ _ us hl => match us, hl with | [_, _], _ => rfl⟩
def mk_sets_of {K : PySem.W.Frag} {h : Heap} {mg : Str → Option Value} (X : K.In h) (G : h.Ns mainGlobals mg) {f : Addr} {od an : Option Addr} {sl : Array (Option Value)} {oc kV dc pm cd ct : Value}
    (a : PySem.W.nsIn K mainGlobals "sets_of" = some (some (.ref f))) (l : K.lookup f = some ⟨oc, od, .func (PySem.W.fnOf "sets_of" "sets_of" (defArgs s_sets_of) (defBody s_sets_of) (defScope s_sets_of) .none kV dc pm an cd ct), sl⟩) (c : PySem.W.codeIn K cd "sets_of" = true) (k : PySem.W.keepIn K (.ref f) = true) :
    Dfn K mg "sets_of" s_sets_of ["degree", "size"] :=
  ⟨f, PySem.W.fnOf "sets_of" "sets_of" (defArgs s_sets_of) (defBody s_sets_of) (defScope s_sets_of) .none kV dc pm an cd ct, fun_mk (st := s_sets_of) l c k, PySem.W.mg_of X G a, (fun_mk (st := s_sets_of) l c k).binds (ps := ["degree", "size"]) fun _ _ _ _ _ _ us hl => match us, hl with | [_, _], _ => rfl⟩
def mk_least_sets {K : PySem.W.Frag} {h : Heap} {mg : Str → Option Value} (X : K.In h) (G : h.Ns mainGlobals mg) {f : Addr} {od an : Option Addr} {sl : Array (Option Value)} {oc kV dc pm cd ct : Value}
    (a : PySem.W.nsIn K mainGlobals "least_sets" = some (some (.ref f))) (l : K.lookup f = some ⟨oc, od, .func (PySem.W.fnOf "least_sets" "least_sets" (defArgs s_least_sets) (defBody s_least_sets) (defScope s_least_sets) .none kV dc pm an cd ct), sl⟩) (c : PySem.W.codeIn K cd "least_sets" = true) (k : PySem.W.keepIn K (.ref f) = true) :
    Dfn K mg "least_sets" s_least_sets ["group", "size"] :=
  ⟨f, PySem.W.fnOf "least_sets" "least_sets" (defArgs s_least_sets) (defBody s_least_sets) (defScope s_least_sets) .none kV dc pm an cd ct, fun_mk (st := s_least_sets) l c k, PySem.W.mg_of X G a, (fun_mk (st := s_least_sets) l c k).binds (ps := ["group", "size"]) fun _ _ _ _ _ _ us hl => match us, hl with | [_, _], _ => rfl⟩
def mk_set_counts {K : PySem.W.Frag} {h : Heap} {mg : Str → Option Value} (X : K.In h) (G : h.Ns mainGlobals mg) {f : Addr} {od an : Option Addr} {sl : Array (Option Value)} {oc kV dc pm cd ct : Value}
    (a : PySem.W.nsIn K mainGlobals "set_counts" = some (some (.ref f))) (l : K.lookup f = some ⟨oc, od, .func (PySem.W.fnOf "set_counts" "set_counts" (defArgs s_set_counts) (defBody s_set_counts) (defScope s_set_counts) .none kV dc pm an cd ct), sl⟩) (c : PySem.W.codeIn K cd "set_counts" = true) (k : PySem.W.keepIn K (.ref f) = true) :
    Dfn K mg "set_counts" s_set_counts ["group"] :=
  ⟨f, PySem.W.fnOf "set_counts" "set_counts" (defArgs s_set_counts) (defBody s_set_counts) (defScope s_set_counts) .none kV dc pm an cd ct, fun_mk (st := s_set_counts) l c k, PySem.W.mg_of X G a, (fun_mk (st := s_set_counts) l c k).binds (ps := ["group"]) fun _ _ _ _ _ _ us hl => match us, hl with | [_], _ => rfl⟩
def mk_z_taken {K : PySem.W.Frag} {h : Heap} {mg : Str → Option Value} (X : K.In h) (G : h.Ns mainGlobals mg) {f : Addr} {od an : Option Addr} {sl : Array (Option Value)} {oc kV dc pm cd ct : Value}
    (a : PySem.W.nsIn K mainGlobals "_law_taken" = some (some (.ref f))) (l : K.lookup f = some ⟨oc, od, .func (PySem.W.fnOf "_law_taken" "_law_taken" (defArgs s_z_taken) (defBody s_z_taken) (defScope s_z_taken) .none kV dc pm an cd ct), sl⟩) (c : PySem.W.codeIn K cd "_law_taken" = true) (k : PySem.W.keepIn K (.ref f) = true) :
    Dfn K mg "_law_taken" s_z_taken ["_law_row", "_law_many"] :=
  ⟨f, PySem.W.fnOf "_law_taken" "_law_taken" (defArgs s_z_taken) (defBody s_z_taken) (defScope s_z_taken) .none kV dc pm an cd ct, fun_mk (st := s_z_taken) l c k, PySem.W.mg_of X G a, (fun_mk (st := s_z_taken) l c k).binds (ps := ["_law_row", "_law_many"]) fun _ _ _ _ _ _ us hl => match us, hl with | [_, _], _ => rfl⟩
def mk_z_small {K : PySem.W.Frag} {h : Heap} {mg : Str → Option Value} (X : K.In h) (G : h.Ns mainGlobals mg) {f : Addr} {od an : Option Addr} {sl : Array (Option Value)} {oc kV dc pm cd ct : Value}
    (a : PySem.W.nsIn K mainGlobals "_law_small" = some (some (.ref f))) (l : K.lookup f = some ⟨oc, od, .func (PySem.W.fnOf "_law_small" "_law_small" (defArgs s_z_small) (defBody s_z_small) (defScope s_z_small) .none kV dc pm an cd ct), sl⟩) (c : PySem.W.codeIn K cd "_law_small" = true) (k : PySem.W.keepIn K (.ref f) = true) :
    Dfn K mg "_law_small" s_z_small ([] : List Str) :=
  ⟨f, PySem.W.fnOf "_law_small" "_law_small" (defArgs s_z_small) (defBody s_z_small) (defScope s_z_small) .none kV dc pm an cd ct, fun_mk (st := s_z_small) l c k, PySem.W.mg_of X G a, (fun_mk (st := s_z_small) l c k).binds (ps := ([] : List Str)) fun _ _ _ _ _ _ us hl => match us, hl with | [], _ => rfl⟩
def mk_z_large {K : PySem.W.Frag} {h : Heap} {mg : Str → Option Value} (X : K.In h) (G : h.Ns mainGlobals mg) {f : Addr} {od an : Option Addr} {sl : Array (Option Value)} {oc kV dc pm cd ct : Value}
    (a : PySem.W.nsIn K mainGlobals "_law_large" = some (some (.ref f))) (l : K.lookup f = some ⟨oc, od, .func (PySem.W.fnOf "_law_large" "_law_large" (defArgs s_z_large) (defBody s_z_large) (defScope s_z_large) .none kV dc pm an cd ct), sl⟩) (c : PySem.W.codeIn K cd "_law_large" = true) (k : PySem.W.keepIn K (.ref f) = true) :
    Dfn K mg "_law_large" s_z_large ([] : List Str) :=
  ⟨f, PySem.W.fnOf "_law_large" "_law_large" (defArgs s_z_large) (defBody s_z_large) (defScope s_z_large) .none kV dc pm an cd ct, fun_mk (st := s_z_large) l c k, PySem.W.mg_of X G a, (fun_mk (st := s_z_large) l c k).binds (ps := ([] : List Str)) fun _ _ _ _ _ _ us hl => match us, hl with | [], _ => rfl⟩
def mk_z_pick {K : PySem.W.Frag} {h : Heap} {mg : Str → Option Value} (X : K.In h) (G : h.Ns mainGlobals mg) {f : Addr} {od an : Option Addr} {sl : Array (Option Value)} {oc kV dc pm cd ct : Value}
    (a : PySem.W.nsIn K mainGlobals "_law_pick" = some (some (.ref f))) (l : K.lookup f = some ⟨oc, od, .func (PySem.W.fnOf "_law_pick" "_law_pick" (defArgs s_z_pick) (defBody s_z_pick) (defScope s_z_pick) .none kV dc pm an cd ct), sl⟩) (c : PySem.W.codeIn K cd "_law_pick" = true) (k : PySem.W.keepIn K (.ref f) = true) :
    Dfn K mg "_law_pick" s_z_pick ["_law_row", "_law_things"] :=
  ⟨f, PySem.W.fnOf "_law_pick" "_law_pick" (defArgs s_z_pick) (defBody s_z_pick) (defScope s_z_pick) .none kV dc pm an cd ct, fun_mk (st := s_z_pick) l c k, PySem.W.mg_of X G a, (fun_mk (st := s_z_pick) l c k).binds (ps := ["_law_row", "_law_things"]) fun _ _ _ _ _ _ us hl => match us, hl with | [_, _], _ => rfl⟩
def mk_z_perm {K : PySem.W.Frag} {h : Heap} {mg : Str → Option Value} (X : K.In h) (G : h.Ns mainGlobals mg) {f : Addr} {od an : Option Addr} {sl : Array (Option Value)} {oc kV dc pm cd ct : Value}
    (a : PySem.W.nsIn K mainGlobals "_law_perm" = some (some (.ref f))) (l : K.lookup f = some ⟨oc, od, .func (PySem.W.fnOf "_law_perm" "_law_perm" (defArgs s_z_perm) (defBody s_z_perm) (defScope s_z_perm) .none kV dc pm an cd ct), sl⟩) (c : PySem.W.codeIn K cd "_law_perm" = true) (k : PySem.W.keepIn K (.ref f) = true) :
    Dfn K mg "_law_perm" s_z_perm ["_law_row", "_law_degree"] :=
  ⟨f, PySem.W.fnOf "_law_perm" "_law_perm" (defArgs s_z_perm) (defBody s_z_perm) (defScope s_z_perm) .none kV dc pm an cd ct, fun_mk (st := s_z_perm) l c k, PySem.W.mg_of X G a, (fun_mk (st := s_z_perm) l c k).binds (ps := ["_law_row", "_law_degree"]) fun _ _ _ _ _ _ us hl => match us, hl with | [_, _], _ => rfl⟩
def mk_z_mul {K : PySem.W.Frag} {h : Heap} {mg : Str → Option Value} (X : K.In h) (G : h.Ns mainGlobals mg) {f : Addr} {od an : Option Addr} {sl : Array (Option Value)} {oc kV dc pm cd ct : Value}
    (a : PySem.W.nsIn K mainGlobals "_law_mul" = some (some (.ref f))) (l : K.lookup f = some ⟨oc, od, .func (PySem.W.fnOf "_law_mul" "_law_mul" (defArgs s_z_mul) (defBody s_z_mul) (defScope s_z_mul) .none kV dc pm an cd ct), sl⟩) (c : PySem.W.codeIn K cd "_law_mul" = true) (k : PySem.W.keepIn K (.ref f) = true) :
    Dfn K mg "_law_mul" s_z_mul ["_law_p", "_law_q"] :=
  ⟨f, PySem.W.fnOf "_law_mul" "_law_mul" (defArgs s_z_mul) (defBody s_z_mul) (defScope s_z_mul) .none kV dc pm an cd ct, fun_mk (st := s_z_mul) l c k, PySem.W.mg_of X G a, (fun_mk (st := s_z_mul) l c k).binds (ps := ["_law_p", "_law_q"]) fun _ _ _ _ _ _ us hl => match us, hl with | [_, _], _ => rfl⟩
def mk_z_inv {K : PySem.W.Frag} {h : Heap} {mg : Str → Option Value} (X : K.In h) (G : h.Ns mainGlobals mg) {f : Addr} {od an : Option Addr} {sl : Array (Option Value)} {oc kV dc pm cd ct : Value}
    (a : PySem.W.nsIn K mainGlobals "_law_inv" = some (some (.ref f))) (l : K.lookup f = some ⟨oc, od, .func (PySem.W.fnOf "_law_inv" "_law_inv" (defArgs s_z_inv) (defBody s_z_inv) (defScope s_z_inv) .none kV dc pm an cd ct), sl⟩) (c : PySem.W.codeIn K cd "_law_inv" = true) (k : PySem.W.keepIn K (.ref f) = true) :
    Dfn K mg "_law_inv" s_z_inv ["_law_p"] :=
  ⟨f, PySem.W.fnOf "_law_inv" "_law_inv" (defArgs s_z_inv) (defBody s_z_inv) (defScope s_z_inv) .none kV dc pm an cd ct, fun_mk (st := s_z_inv) l c k, PySem.W.mg_of X G a, (fun_mk (st := s_z_inv) l c k).binds (ps := ["_law_p"]) fun _ _ _ _ _ _ us hl => match us, hl with | [_], _ => rfl⟩
def mk_z_conj {K : PySem.W.Frag} {h : Heap} {mg : Str → Option Value} (X : K.In h) (G : h.Ns mainGlobals mg) {f : Addr} {od an : Option Addr} {sl : Array (Option Value)} {oc kV dc pm cd ct : Value}
    (a : PySem.W.nsIn K mainGlobals "_law_conj" = some (some (.ref f))) (l : K.lookup f = some ⟨oc, od, .func (PySem.W.fnOf "_law_conj" "_law_conj" (defArgs s_z_conj) (defBody s_z_conj) (defScope s_z_conj) .none kV dc pm an cd ct), sl⟩) (c : PySem.W.codeIn K cd "_law_conj" = true) (k : PySem.W.keepIn K (.ref f) = true) :
    Dfn K mg "_law_conj" s_z_conj ["_law_p", "_law_g"] :=
  ⟨f, PySem.W.fnOf "_law_conj" "_law_conj" (defArgs s_z_conj) (defBody s_z_conj) (defScope s_z_conj) .none kV dc pm an cd ct, fun_mk (st := s_z_conj) l c k, PySem.W.mg_of X G a, (fun_mk (st := s_z_conj) l c k).binds (ps := ["_law_p", "_law_g"]) fun _ _ _ _ _ _ us hl => match us, hl with | [_, _], _ => rfl⟩
def mk_z_unit {K : PySem.W.Frag} {h : Heap} {mg : Str → Option Value} (X : K.In h) (G : h.Ns mainGlobals mg) {f : Addr} {od an : Option Addr} {sl : Array (Option Value)} {oc kV dc pm cd ct : Value}
    (a : PySem.W.nsIn K mainGlobals "_law_unit" = some (some (.ref f))) (l : K.lookup f = some ⟨oc, od, .func (PySem.W.fnOf "_law_unit" "_law_unit" (defArgs s_z_unit) (defBody s_z_unit) (defScope s_z_unit) .none kV dc pm an cd ct), sl⟩) (c : PySem.W.codeIn K cd "_law_unit" = true) (k : PySem.W.keepIn K (.ref f) = true) :
    Dfn K mg "_law_unit" s_z_unit ["_law_degree"] :=
  ⟨f, PySem.W.fnOf "_law_unit" "_law_unit" (defArgs s_z_unit) (defBody s_z_unit) (defScope s_z_unit) .none kV dc pm an cd ct, fun_mk (st := s_z_unit) l c k, PySem.W.mg_of X G a, (fun_mk (st := s_z_unit) l c k).binds (ps := ["_law_degree"]) fun _ _ _ _ _ _ us hl => match us, hl with | [_], _ => rfl⟩
def mk_z_known {K : PySem.W.Frag} {h : Heap} {mg : Str → Option Value} (X : K.In h) (G : h.Ns mainGlobals mg) {f : Addr} {od an : Option Addr} {sl : Array (Option Value)} {oc kV dc pm cd ct : Value}
    (a : PySem.W.nsIn K mainGlobals "_law_known" = some (some (.ref f))) (l : K.lookup f = some ⟨oc, od, .func (PySem.W.fnOf "_law_known" "_law_known" (defArgs s_z_known) (defBody s_z_known) (defScope s_z_known) .none kV dc pm an cd ct), sl⟩) (c : PySem.W.codeIn K cd "_law_known" = true) (k : PySem.W.keepIn K (.ref f) = true) :
    Dfn K mg "_law_known" s_z_known ["_law_row", "_law_degree", "_law_most"] :=
  ⟨f, PySem.W.fnOf "_law_known" "_law_known" (defArgs s_z_known) (defBody s_z_known) (defScope s_z_known) .none kV dc pm an cd ct, fun_mk (st := s_z_known) l c k, PySem.W.mg_of X G a, (fun_mk (st := s_z_known) l c k).binds (ps := ["_law_row", "_law_degree", "_law_most"]) fun _ _ _ _ _ _ us hl => match us, hl with | [_, _, _], _ => rfl⟩
def mk_z_group {K : PySem.W.Frag} {h : Heap} {mg : Str → Option Value} (X : K.In h) (G : h.Ns mainGlobals mg) {f : Addr} {od an : Option Addr} {sl : Array (Option Value)} {oc kV dc pm cd ct : Value}
    (a : PySem.W.nsIn K mainGlobals "_law_group" = some (some (.ref f))) (l : K.lookup f = some ⟨oc, od, .func (PySem.W.fnOf "_law_group" "_law_group" (defArgs s_z_group) (defBody s_z_group) (defScope s_z_group) .none kV dc pm an cd ct), sl⟩) (c : PySem.W.codeIn K cd "_law_group" = true) (k : PySem.W.keepIn K (.ref f) = true) :
    Dfn K mg "_law_group" s_z_group ["_law_row", "_law_degree", "_law_most"] :=
  ⟨f, PySem.W.fnOf "_law_group" "_law_group" (defArgs s_z_group) (defBody s_z_group) (defScope s_z_group) .none kV dc pm an cd ct, fun_mk (st := s_z_group) l c k, PySem.W.mg_of X G a, (fun_mk (st := s_z_group) l c k).binds (ps := ["_law_row", "_law_degree", "_law_most"]) fun _ _ _ _ _ _ us hl => match us, hl with | [_, _, _], _ => rfl⟩
def mk_z_closure {K : PySem.W.Frag} {h : Heap} {mg : Str → Option Value} (X : K.In h) (G : h.Ns mainGlobals mg) {f : Addr} {od an : Option Addr} {sl : Array (Option Value)} {oc kV dc pm cd ct : Value}
    (a : PySem.W.nsIn K mainGlobals "_law_closure" = some (some (.ref f))) (l : K.lookup f = some ⟨oc, od, .func (PySem.W.fnOf "_law_closure" "_law_closure" (defArgs s_z_closure) (defBody s_z_closure) (defScope s_z_closure) .none kV dc pm an cd ct), sl⟩) (c : PySem.W.codeIn K cd "_law_closure" = true) (k : PySem.W.keepIn K (.ref f) = true) :
    Dfn K mg "_law_closure" s_z_closure ["_law_degree", "_law_gens"] :=
  ⟨f, PySem.W.fnOf "_law_closure" "_law_closure" (defArgs s_z_closure) (defBody s_z_closure) (defScope s_z_closure) .none kV dc pm an cd ct, fun_mk (st := s_z_closure) l c k, PySem.W.mg_of X G a, (fun_mk (st := s_z_closure) l c k).binds (ps := ["_law_degree", "_law_gens"]) fun _ _ _ _ _ _ us hl => match us, hl with | [_, _], _ => rfl⟩
def mk_z_alike {K : PySem.W.Frag} {h : Heap} {mg : Str → Option Value} (X : K.In h) (G : h.Ns mainGlobals mg) {f : Addr} {od an : Option Addr} {sl : Array (Option Value)} {oc kV dc pm cd ct : Value}
    (a : PySem.W.nsIn K mainGlobals "_law_alike" = some (some (.ref f))) (l : K.lookup f = some ⟨oc, od, .func (PySem.W.fnOf "_law_alike" "_law_alike" (defArgs s_z_alike) (defBody s_z_alike) (defScope s_z_alike) .none kV dc pm an cd ct), sl⟩) (c : PySem.W.codeIn K cd "_law_alike" = true) (k : PySem.W.keepIn K (.ref f) = true) :
    Dfn K mg "_law_alike" s_z_alike ["_law_found", "_law_due"] :=
  ⟨f, PySem.W.fnOf "_law_alike" "_law_alike" (defArgs s_z_alike) (defBody s_z_alike) (defScope s_z_alike) .none kV dc pm an cd ct, fun_mk (st := s_z_alike) l c k, PySem.W.mg_of X G a, (fun_mk (st := s_z_alike) l c k).binds (ps := ["_law_found", "_law_due"]) fun _ _ _ _ _ _ us hl => match us, hl with | [_, _], _ => rfl⟩
def mk_z_counts {K : PySem.W.Frag} {h : Heap} {mg : Str → Option Value} (X : K.In h) (G : h.Ns mainGlobals mg) {f : Addr} {od an : Option Addr} {sl : Array (Option Value)} {oc kV dc pm cd ct : Value}
    (a : PySem.W.nsIn K mainGlobals "_law_counts" = some (some (.ref f))) (l : K.lookup f = some ⟨oc, od, .func (PySem.W.fnOf "_law_counts" "_law_counts" (defArgs s_z_counts) (defBody s_z_counts) (defScope s_z_counts) .none kV dc pm an cd ct), sl⟩) (c : PySem.W.codeIn K cd "_law_counts" = true) (k : PySem.W.keepIn K (.ref f) = true) :
    Dfn K mg "_law_counts" s_z_counts ["_law_degree", "_law_every"] :=
  ⟨f, PySem.W.fnOf "_law_counts" "_law_counts" (defArgs s_z_counts) (defBody s_z_counts) (defScope s_z_counts) .none kV dc pm an cd ct, fun_mk (st := s_z_counts) l c k, PySem.W.mg_of X G a, (fun_mk (st := s_z_counts) l c k).binds (ps := ["_law_degree", "_law_every"]) fun _ _ _ _ _ _ us hl => match us, hl with | [_, _], _ => rfl⟩
def mk_z_image {K : PySem.W.Frag} {h : Heap} {mg : Str → Option Value} (X : K.In h) (G : h.Ns mainGlobals mg) {f : Addr} {od an : Option Addr} {sl : Array (Option Value)} {oc kV dc pm cd ct : Value}
    (a : PySem.W.nsIn K mainGlobals "_law_image" = some (some (.ref f))) (l : K.lookup f = some ⟨oc, od, .func (PySem.W.fnOf "_law_image" "_law_image" (defArgs s_z_image) (defBody s_z_image) (defScope s_z_image) .none kV dc pm an cd ct), sl⟩) (c : PySem.W.codeIn K cd "_law_image" = true) (k : PySem.W.keepIn K (.ref f) = true) :
    Dfn K mg "_law_image" s_z_image ["_law_points", "_law_p"] :=
  ⟨f, PySem.W.fnOf "_law_image" "_law_image" (defArgs s_z_image) (defBody s_z_image) (defScope s_z_image) .none kV dc pm an cd ct, fun_mk (st := s_z_image) l c k, PySem.W.mg_of X G a, (fun_mk (st := s_z_image) l c k).binds (ps := ["_law_points", "_law_p"]) fun _ _ _ _ _ _ us hl => match us, hl with | [_, _], _ => rfl⟩
def mk_law {K : PySem.W.Frag} {h : Heap} {mg : Str → Option Value} (X : K.In h) (G : h.Ns mainGlobals mg) {f : Addr} {od an : Option Addr} {sl : Array (Option Value)} {oc kV dc pm cd ct : Value}
    (a : PySem.W.nsIn K mainGlobals "law" = some (some (.ref f))) (l : K.lookup f = some ⟨oc, od, .func (PySem.W.fnOf "law" "law" (defArgs s_law) (defBody s_law) (defScope s_law) .none kV dc pm an cd ct), sl⟩) (c : PySem.W.codeIn K cd "law" = true) (k : PySem.W.keepIn K (.ref f) = true) :
    Dfn K mg "law" s_law ["_law_script"] :=
  ⟨f, PySem.W.fnOf "law" "law" (defArgs s_law) (defBody s_law) (defScope s_law) .none kV dc pm an cd ct, fun_mk (st := s_law) l c k, PySem.W.mg_of X G a, (fun_mk (st := s_law) l c k).binds (ps := ["_law_script"]) fun _ _ _ _ _ _ us hl => match us, hl with | [_], _ => rfl⟩
theorem all_mk {l : PySem.W.OpenLaw} {w : World} {K : PySem.W.Frag} {h : Heap} {mg : Str → Option Value} {fa : Addr} (X : K.In h) (G : h.Ns mainGlobals mg) (hfa : mg "law" = some (.ref fa))
    {f0 : Addr} {od0 an0 : Option Addr} {sl0 : Array (Option Value)} {oc0 kV0 dc0 pm0 cd0 ct0 : Value} (a0 : PySem.W.nsIn K mainGlobals "is_int" = some (some (.ref f0))) (l0 : K.lookup f0 = some ⟨oc0, od0, .func (PySem.W.fnOf "is_int" "is_int" (defArgs s_is_int) (defBody s_is_int) (defScope s_is_int) .none kV0 dc0 pm0 an0 cd0 ct0), sl0⟩) (c0 : PySem.W.codeIn K cd0 "is_int" = true) (k0 : PySem.W.keepIn K (.ref f0) = true)
    {f1 : Addr} {od1 an1 : Option Addr} {sl1 : Array (Option Value)} {oc1 kV1 dc1 pm1 cd1 ct1 : Value} (a1 : PySem.W.nsIn K mainGlobals "is_in" = some (some (.ref f1))) (l1 : K.lookup f1 = some ⟨oc1, od1, .func (PySem.W.fnOf "is_in" "is_in" (defArgs s_is_in) (defBody s_is_in) (defScope s_is_in) .none kV1 dc1 pm1 an1 cd1 ct1), sl1⟩) (c1 : PySem.W.codeIn K cd1 "is_in" = true) (k1 : PySem.W.keepIn K (.ref f1) = true)
    {f2 : Addr} {od2 an2 : Option Addr} {sl2 : Array (Option Value)} {oc2 kV2 dc2 pm2 cd2 ct2 : Value} (a2 : PySem.W.nsIn K mainGlobals "is_perm" = some (some (.ref f2))) (l2 : K.lookup f2 = some ⟨oc2, od2, .func (PySem.W.fnOf "is_perm" "is_perm" (defArgs s_is_perm) (defBody s_is_perm) (defScope s_is_perm) .none kV2 dc2 pm2 an2 cd2 ct2), sl2⟩) (c2 : PySem.W.codeIn K cd2 "is_perm" = true) (k2 : PySem.W.keepIn K (.ref f2) = true)
    {f3 : Addr} {od3 an3 : Option Addr} {sl3 : Array (Option Value)} {oc3 kV3 dc3 pm3 cd3 ct3 : Value} (a3 : PySem.W.nsIn K mainGlobals "need_group" = some (some (.ref f3))) (l3 : K.lookup f3 = some ⟨oc3, od3, .func (PySem.W.fnOf "need_group" "need_group" (defArgs s_need_group) (defBody s_need_group) (defScope s_need_group) .none kV3 dc3 pm3 an3 cd3 ct3), sl3⟩) (c3 : PySem.W.codeIn K cd3 "need_group" = true) (k3 : PySem.W.keepIn K (.ref f3) = true)
    {f4 : Addr} {od4 an4 : Option Addr} {sl4 : Array (Option Value)} {oc4 kV4 dc4 pm4 cd4 ct4 : Value} (a4 : PySem.W.nsIn K mainGlobals "image_of" = some (some (.ref f4))) (l4 : K.lookup f4 = some ⟨oc4, od4, .func (PySem.W.fnOf "image_of" "image_of" (defArgs s_image_of) (defBody s_image_of) (defScope s_image_of) .none kV4 dc4 pm4 an4 cd4 ct4), sl4⟩) (c4 : PySem.W.codeIn K cd4 "image_of" = true) (k4 : PySem.W.keepIn K (.ref f4) = true)
    {f5 : Addr} {od5 an5 : Option Addr} {sl5 : Array (Option Value)} {oc5 kV5 dc5 pm5 cd5 ct5 : Value} (a5 : PySem.W.nsIn K mainGlobals "set_ways" = some (some (.ref f5))) (l5 : K.lookup f5 = some ⟨oc5, od5, .func (PySem.W.fnOf "set_ways" "set_ways" (defArgs s_set_ways) (defBody s_set_ways) (defScope s_set_ways) .none kV5 dc5 pm5 an5 cd5 ct5), sl5⟩) (c5 : PySem.W.codeIn K cd5 "set_ways" = true) (k5 : PySem.W.keepIn K (.ref f5) = true)
    {f6 : Addr} {od6 an6 : Option Addr} {sl6 : Array (Option Value)} {oc6 kV6 dc6 pm6 cd6 ct6 : Value} (a6 : PySem.W.nsIn K mainGlobals "sets_of" = some (some (.ref f6))) (l6 : K.lookup f6 = some ⟨oc6, od6, .func (PySem.W.fnOf "sets_of" "sets_of" (defArgs s_sets_of) (defBody s_sets_of) (defScope s_sets_of) .none kV6 dc6 pm6 an6 cd6 ct6), sl6⟩) (c6 : PySem.W.codeIn K cd6 "sets_of" = true) (k6 : PySem.W.keepIn K (.ref f6) = true)
    {f7 : Addr} {od7 an7 : Option Addr} {sl7 : Array (Option Value)} {oc7 kV7 dc7 pm7 cd7 ct7 : Value} (a7 : PySem.W.nsIn K mainGlobals "least_sets" = some (some (.ref f7))) (l7 : K.lookup f7 = some ⟨oc7, od7, .func (PySem.W.fnOf "least_sets" "least_sets" (defArgs s_least_sets) (defBody s_least_sets) (defScope s_least_sets) .none kV7 dc7 pm7 an7 cd7 ct7), sl7⟩) (c7 : PySem.W.codeIn K cd7 "least_sets" = true) (k7 : PySem.W.keepIn K (.ref f7) = true)
    {f8 : Addr} {od8 an8 : Option Addr} {sl8 : Array (Option Value)} {oc8 kV8 dc8 pm8 cd8 ct8 : Value} (a8 : PySem.W.nsIn K mainGlobals "set_counts" = some (some (.ref f8))) (l8 : K.lookup f8 = some ⟨oc8, od8, .func (PySem.W.fnOf "set_counts" "set_counts" (defArgs s_set_counts) (defBody s_set_counts) (defScope s_set_counts) .none kV8 dc8 pm8 an8 cd8 ct8), sl8⟩) (c8 : PySem.W.codeIn K cd8 "set_counts" = true) (k8 : PySem.W.keepIn K (.ref f8) = true)
    {f9 : Addr} {od9 an9 : Option Addr} {sl9 : Array (Option Value)} {oc9 kV9 dc9 pm9 cd9 ct9 : Value} (a9 : PySem.W.nsIn K mainGlobals "_law_taken" = some (some (.ref f9))) (l9 : K.lookup f9 = some ⟨oc9, od9, .func (PySem.W.fnOf "_law_taken" "_law_taken" (defArgs s_z_taken) (defBody s_z_taken) (defScope s_z_taken) .none kV9 dc9 pm9 an9 cd9 ct9), sl9⟩) (c9 : PySem.W.codeIn K cd9 "_law_taken" = true) (k9 : PySem.W.keepIn K (.ref f9) = true)
    {f10 : Addr} {od10 an10 : Option Addr} {sl10 : Array (Option Value)} {oc10 kV10 dc10 pm10 cd10 ct10 : Value} (a10 : PySem.W.nsIn K mainGlobals "_law_small" = some (some (.ref f10))) (l10 : K.lookup f10 = some ⟨oc10, od10, .func (PySem.W.fnOf "_law_small" "_law_small" (defArgs s_z_small) (defBody s_z_small) (defScope s_z_small) .none kV10 dc10 pm10 an10 cd10 ct10), sl10⟩) (c10 : PySem.W.codeIn K cd10 "_law_small" = true) (k10 : PySem.W.keepIn K (.ref f10) = true)
    {f11 : Addr} {od11 an11 : Option Addr} {sl11 : Array (Option Value)} {oc11 kV11 dc11 pm11 cd11 ct11 : Value} (a11 : PySem.W.nsIn K mainGlobals "_law_large" = some (some (.ref f11))) (l11 : K.lookup f11 = some ⟨oc11, od11, .func (PySem.W.fnOf "_law_large" "_law_large" (defArgs s_z_large) (defBody s_z_large) (defScope s_z_large) .none kV11 dc11 pm11 an11 cd11 ct11), sl11⟩) (c11 : PySem.W.codeIn K cd11 "_law_large" = true) (k11 : PySem.W.keepIn K (.ref f11) = true)
    {f12 : Addr} {od12 an12 : Option Addr} {sl12 : Array (Option Value)} {oc12 kV12 dc12 pm12 cd12 ct12 : Value} (a12 : PySem.W.nsIn K mainGlobals "_law_pick" = some (some (.ref f12))) (l12 : K.lookup f12 = some ⟨oc12, od12, .func (PySem.W.fnOf "_law_pick" "_law_pick" (defArgs s_z_pick) (defBody s_z_pick) (defScope s_z_pick) .none kV12 dc12 pm12 an12 cd12 ct12), sl12⟩) (c12 : PySem.W.codeIn K cd12 "_law_pick" = true) (k12 : PySem.W.keepIn K (.ref f12) = true)
    {f13 : Addr} {od13 an13 : Option Addr} {sl13 : Array (Option Value)} {oc13 kV13 dc13 pm13 cd13 ct13 : Value} (a13 : PySem.W.nsIn K mainGlobals "_law_perm" = some (some (.ref f13))) (l13 : K.lookup f13 = some ⟨oc13, od13, .func (PySem.W.fnOf "_law_perm" "_law_perm" (defArgs s_z_perm) (defBody s_z_perm) (defScope s_z_perm) .none kV13 dc13 pm13 an13 cd13 ct13), sl13⟩) (c13 : PySem.W.codeIn K cd13 "_law_perm" = true) (k13 : PySem.W.keepIn K (.ref f13) = true)
    {f14 : Addr} {od14 an14 : Option Addr} {sl14 : Array (Option Value)} {oc14 kV14 dc14 pm14 cd14 ct14 : Value} (a14 : PySem.W.nsIn K mainGlobals "_law_mul" = some (some (.ref f14))) (l14 : K.lookup f14 = some ⟨oc14, od14, .func (PySem.W.fnOf "_law_mul" "_law_mul" (defArgs s_z_mul) (defBody s_z_mul) (defScope s_z_mul) .none kV14 dc14 pm14 an14 cd14 ct14), sl14⟩) (c14 : PySem.W.codeIn K cd14 "_law_mul" = true) (k14 : PySem.W.keepIn K (.ref f14) = true)
    {f15 : Addr} {od15 an15 : Option Addr} {sl15 : Array (Option Value)} {oc15 kV15 dc15 pm15 cd15 ct15 : Value} (a15 : PySem.W.nsIn K mainGlobals "_law_inv" = some (some (.ref f15))) (l15 : K.lookup f15 = some ⟨oc15, od15, .func (PySem.W.fnOf "_law_inv" "_law_inv" (defArgs s_z_inv) (defBody s_z_inv) (defScope s_z_inv) .none kV15 dc15 pm15 an15 cd15 ct15), sl15⟩) (c15 : PySem.W.codeIn K cd15 "_law_inv" = true) (k15 : PySem.W.keepIn K (.ref f15) = true)
    {f16 : Addr} {od16 an16 : Option Addr} {sl16 : Array (Option Value)} {oc16 kV16 dc16 pm16 cd16 ct16 : Value} (a16 : PySem.W.nsIn K mainGlobals "_law_conj" = some (some (.ref f16))) (l16 : K.lookup f16 = some ⟨oc16, od16, .func (PySem.W.fnOf "_law_conj" "_law_conj" (defArgs s_z_conj) (defBody s_z_conj) (defScope s_z_conj) .none kV16 dc16 pm16 an16 cd16 ct16), sl16⟩) (c16 : PySem.W.codeIn K cd16 "_law_conj" = true) (k16 : PySem.W.keepIn K (.ref f16) = true)
    {f17 : Addr} {od17 an17 : Option Addr} {sl17 : Array (Option Value)} {oc17 kV17 dc17 pm17 cd17 ct17 : Value} (a17 : PySem.W.nsIn K mainGlobals "_law_unit" = some (some (.ref f17))) (l17 : K.lookup f17 = some ⟨oc17, od17, .func (PySem.W.fnOf "_law_unit" "_law_unit" (defArgs s_z_unit) (defBody s_z_unit) (defScope s_z_unit) .none kV17 dc17 pm17 an17 cd17 ct17), sl17⟩) (c17 : PySem.W.codeIn K cd17 "_law_unit" = true) (k17 : PySem.W.keepIn K (.ref f17) = true)
    {f18 : Addr} {od18 an18 : Option Addr} {sl18 : Array (Option Value)} {oc18 kV18 dc18 pm18 cd18 ct18 : Value} (a18 : PySem.W.nsIn K mainGlobals "_law_known" = some (some (.ref f18))) (l18 : K.lookup f18 = some ⟨oc18, od18, .func (PySem.W.fnOf "_law_known" "_law_known" (defArgs s_z_known) (defBody s_z_known) (defScope s_z_known) .none kV18 dc18 pm18 an18 cd18 ct18), sl18⟩) (c18 : PySem.W.codeIn K cd18 "_law_known" = true) (k18 : PySem.W.keepIn K (.ref f18) = true)
    {f19 : Addr} {od19 an19 : Option Addr} {sl19 : Array (Option Value)} {oc19 kV19 dc19 pm19 cd19 ct19 : Value} (a19 : PySem.W.nsIn K mainGlobals "_law_group" = some (some (.ref f19))) (l19 : K.lookup f19 = some ⟨oc19, od19, .func (PySem.W.fnOf "_law_group" "_law_group" (defArgs s_z_group) (defBody s_z_group) (defScope s_z_group) .none kV19 dc19 pm19 an19 cd19 ct19), sl19⟩) (c19 : PySem.W.codeIn K cd19 "_law_group" = true) (k19 : PySem.W.keepIn K (.ref f19) = true)
    {f20 : Addr} {od20 an20 : Option Addr} {sl20 : Array (Option Value)} {oc20 kV20 dc20 pm20 cd20 ct20 : Value} (a20 : PySem.W.nsIn K mainGlobals "_law_closure" = some (some (.ref f20))) (l20 : K.lookup f20 = some ⟨oc20, od20, .func (PySem.W.fnOf "_law_closure" "_law_closure" (defArgs s_z_closure) (defBody s_z_closure) (defScope s_z_closure) .none kV20 dc20 pm20 an20 cd20 ct20), sl20⟩) (c20 : PySem.W.codeIn K cd20 "_law_closure" = true) (k20 : PySem.W.keepIn K (.ref f20) = true)
    {f21 : Addr} {od21 an21 : Option Addr} {sl21 : Array (Option Value)} {oc21 kV21 dc21 pm21 cd21 ct21 : Value} (a21 : PySem.W.nsIn K mainGlobals "_law_alike" = some (some (.ref f21))) (l21 : K.lookup f21 = some ⟨oc21, od21, .func (PySem.W.fnOf "_law_alike" "_law_alike" (defArgs s_z_alike) (defBody s_z_alike) (defScope s_z_alike) .none kV21 dc21 pm21 an21 cd21 ct21), sl21⟩) (c21 : PySem.W.codeIn K cd21 "_law_alike" = true) (k21 : PySem.W.keepIn K (.ref f21) = true)
    {f22 : Addr} {od22 an22 : Option Addr} {sl22 : Array (Option Value)} {oc22 kV22 dc22 pm22 cd22 ct22 : Value} (a22 : PySem.W.nsIn K mainGlobals "_law_counts" = some (some (.ref f22))) (l22 : K.lookup f22 = some ⟨oc22, od22, .func (PySem.W.fnOf "_law_counts" "_law_counts" (defArgs s_z_counts) (defBody s_z_counts) (defScope s_z_counts) .none kV22 dc22 pm22 an22 cd22 ct22), sl22⟩) (c22 : PySem.W.codeIn K cd22 "_law_counts" = true) (k22 : PySem.W.keepIn K (.ref f22) = true)
    {f23 : Addr} {od23 an23 : Option Addr} {sl23 : Array (Option Value)} {oc23 kV23 dc23 pm23 cd23 ct23 : Value} (a23 : PySem.W.nsIn K mainGlobals "_law_image" = some (some (.ref f23))) (l23 : K.lookup f23 = some ⟨oc23, od23, .func (PySem.W.fnOf "_law_image" "_law_image" (defArgs s_z_image) (defBody s_z_image) (defScope s_z_image) .none kV23 dc23 pm23 an23 cd23 ct23), sl23⟩) (c23 : PySem.W.codeIn K cd23 "_law_image" = true) (k23 : PySem.W.keepIn K (.ref f23) = true)
    {f24 : Addr} {od24 an24 : Option Addr} {sl24 : Array (Option Value)} {oc24 kV24 dc24 pm24 cd24 ct24 : Value} (a24 : PySem.W.nsIn K mainGlobals "law" = some (some (.ref f24))) (l24 : K.lookup f24 = some ⟨oc24, od24, .func (PySem.W.fnOf "law" "law" (defArgs s_law) (defBody s_law) (defScope s_law) .none kV24 dc24 pm24 an24 cd24 ct24), sl24⟩) (c24 : PySem.W.codeIn K cd24 "law" = true) (k24 : PySem.W.keepIn K (.ref f24) = true)
    (z0 : PySem.W.nsIn K mainGlobals "isinstance" = some none)
    (z1 : PySem.W.nsIn K mainGlobals "int" = some none)
    (z2 : PySem.W.nsIn K mainGlobals "bool" = some none)
    (z3 : PySem.W.nsIn K mainGlobals "str" = some none)
    (z4 : PySem.W.nsIn K mainGlobals "tuple" = some none)
    (z5 : PySem.W.nsIn K mainGlobals "list" = some none)
    (z6 : PySem.W.nsIn K mainGlobals "len" = some none)
    (z7 : PySem.W.nsIn K mainGlobals "range" = some none)
    (z8 : PySem.W.nsIn K mainGlobals "sorted" = some none)
    (z9 : PySem.W.nsIn K mainGlobals "enumerate" = some none)
    (z10 : PySem.W.nsIn K mainGlobals "min" = some none)
    {t1 t2 : _} (q1 : PySem.W.nsIn K mainGlobals "MOST_DEGREE" = some (some (.int 12 t1))) (q2 : PySem.W.nsIn K mainGlobals "MOST_GENERATORS" = some (some (.int 12 t2))) :
    ∃ fd : FuncData, (∀ (s : Shared) (v : Value), BindsTo s fd ⟨[v], []⟩ [("_law_script", v)]) ∧ ∀ base : Heap, K.In base → base.Ns mainGlobals mg → FnOk l.prog w K mg base CX0 7 fa fd ["_law_script"] (spLaw K) := by
  have e := hfa.symm.trans (PySem.W.mg_of X G a24)
  cases e
  exact ⟨PySem.W.fnOf "law" "law" (defArgs s_law) (defBody s_law) (defScope s_law) .none kV24 dc24 pm24 an24 cd24 ct24, fun s v => .of_eq rfl, fun base _ _ => ok_law ⟨⟨PySem.W.mg_none_of X G z0, PySem.W.mg_none_of X G z1, PySem.W.mg_none_of X G z2, PySem.W.mg_none_of X G z3, PySem.W.mg_none_of X G z4, PySem.W.mg_none_of X G z5, PySem.W.mg_none_of X G z6, PySem.W.mg_none_of X G z7, PySem.W.mg_none_of X G z8, PySem.W.mg_none_of X G z9, PySem.W.mg_none_of X G z10⟩, ⟨⟨_, PySem.W.mg_of X G q1⟩, ⟨_, PySem.W.mg_of X G q2⟩⟩, mk_is_int X G a0 l0 c0 k0, mk_is_in X G a1 l1 c1 k1, mk_is_perm X G a2 l2 c2 k2, mk_need_group X G a3 l3 c3 k3, mk_image_of X G a4 l4 c4 k4, mk_set_ways X G a5 l5 c5 k5, mk_sets_of X G a6 l6 c6 k6, mk_least_sets X G a7 l7 c7 k7, mk_set_counts X G a8 l8 c8 k8, mk_z_taken X G a9 l9 c9 k9, mk_z_small X G a10 l10 c10 k10, mk_z_large X G a11 l11 c11 k11, mk_z_pick X G a12 l12 c12 k12, mk_z_perm X G a13 l13 c13 k13, mk_z_mul X G a14 l14 c14 k14, mk_z_inv X G a15 l15 c15 k15, mk_z_conj X G a16 l16 c16 k16, mk_z_unit X G a17 l17 c17 k17, mk_z_known X G a18 l18 c18 k18, mk_z_group X G a19 l19 c19 k19, mk_z_closure X G a20 l20 c20 k20, mk_z_alike X G a21 l21 c21 k21, mk_z_counts X G a22 l22 c22 k22, mk_z_image X G a23 l23 c23 k23, mk_law X G a24 l24 c24 k24⟩⟩
end KW
end
open PySem PySem.W PyProof.Rows
set_option maxHeartbeats 0 in
theorem PySem.Challenge.cw_stronggens_k86_whole_sets_listed_holds : PySem.Challenge.rw_stronggens_k86_whole_sets_listed.Holds := by
  w_on; o_law; k_head; (case hw => w_witness2)
  k_fill
  refine L2.walk_of (l := PySem.Challenge.rw_stronggens_k86_whole_sets_listed) (n := 63) (k := 7) (x := "_law_script") (CX := fun _ => L2.CX0) (sp := fun w => KW.spLaw _) rfl (by decide) rfl ⟨rfl, by decide, by decide⟩ (fun w h Y => PySem.W.kIn_of Y) ?F (fun _ _ a ns hl _ hS => ⟨a, ns, rfl, hS, hl, fun _ => rfl⟩) (fun _ _ _ _ _ h => h)
  case F =>
    intro w mg fa h KX G hmg
    refine' KW.all_mk KX G hmg ?a0 ?l0 ?c0 ?k0 ?a1 ?l1 ?c1 ?k1 ?a2 ?l2 ?c2 ?k2 ?a3 ?l3 ?c3 ?k3 ?a4 ?l4 ?c4 ?k4 ?a5 ?l5 ?c5 ?k5 ?a6 ?l6 ?c6 ?k6 ?a7 ?l7 ?c7 ?k7 ?a8 ?l8 ?c8 ?k8 ?a9 ?l9 ?c9 ?k9 ?a10 ?l10 ?c10 ?k10 ?a11 ?l11 ?c11 ?k11 ?a12 ?l12 ?c12 ?k12 ?a13 ?l13 ?c13 ?k13 ?a14 ?l14 ?c14 ?k14 ?a15 ?l15 ?c15 ?k15 ?a16 ?l16 ?c16 ?k16 ?a17 ?l17 ?c17 ?k17 ?a18 ?l18 ?c18 ?k18 ?a19 ?l19 ?c19 ?k19 ?a20 ?l20 ?c20 ?k20 ?a21 ?l21 ?c21 ?k21 ?a22 ?l22 ?c22 ?k22 ?a23 ?l23 ?c23 ?k23 ?a24 ?l24 ?c24 ?k24 ?z0 ?z1 ?z2 ?z3 ?z4 ?z5 ?z6 ?z7 ?z8 ?z9 ?z10 ?q1 ?q2
    (case a0 => k_is); (case l0 => k_is); (case c0 => k_is); (case k0 => k_is); (case a1 => k_is); (case l1 => k_is); (case c1 => k_is); (case k1 => k_is); (case a2 => k_is); (case l2 => k_is); (case c2 => k_is); (case k2 => k_is); (case a3 => k_is); (case l3 => k_is); (case c3 => k_is); (case k3 => k_is); (case a4 => k_is); (case l4 => k_is); (case c4 => k_is); (case k4 => k_is); (case a5 => k_is); (case l5 => k_is); (case c5 => k_is); (case k5 => k_is); (case a6 => k_is); (case l6 => k_is); (case c6 => k_is); (case k6 => k_is); (case a7 => k_is); (case l7 => k_is); (case c7 => k_is); (case k7 => k_is); (case a8 => k_is); (case l8 => k_is); (case c8 => k_is); (case k8 => k_is); (case a9 => k_is); (case l9 => k_is); (case c9 => k_is); (case k9 => k_is); (case a10 => k_is); (case l10 => k_is); (case c10 => k_is); (case k10 => k_is); (case a11 => k_is); (case l11 => k_is); (case c11 => k_is); (case k11 => k_is); (case a12 => k_is); (case l12 => k_is); (case c12 => k_is); (case k12 => k_is); (case a13 => k_is); (case l13 => k_is); (case c13 => k_is); (case k13 => k_is); (case a14 => k_is); (case l14 => k_is); (case c14 => k_is); (case k14 => k_is); (case a15 => k_is); (case l15 => k_is); (case c15 => k_is); (case k15 => k_is); (case a16 => k_is); (case l16 => k_is); (case c16 => k_is); (case k16 => k_is); (case a17 => k_is); (case l17 => k_is); (case c17 => k_is); (case k17 => k_is); (case a18 => k_is); (case l18 => k_is); (case c18 => k_is); (case k18 => k_is); (case a19 => k_is); (case l19 => k_is); (case c19 => k_is); (case k19 => k_is); (case a20 => k_is); (case l20 => k_is); (case c20 => k_is); (case k20 => k_is); (case a21 => k_is); (case l21 => k_is); (case c21 => k_is); (case k21 => k_is); (case a22 => k_is); (case l22 => k_is); (case c22 => k_is); (case k22 => k_is); (case a23 => k_is); (case l23 => k_is); (case c23 => k_is); (case k23 => k_is); (case a24 => k_is); (case l24 => k_is); (case c24 => k_is); (case k24 => k_is); (case z0 => k_is); (case z1 => k_is); (case z2 => k_is); (case z3 => k_is); (case z4 => k_is); (case z5 => k_is); (case z6 => k_is); (case z7 => k_is); (case z8 => k_is); (case z9 => k_is); (case z10 => k_is); (case q1 => k_is); (case q2 => k_is)
