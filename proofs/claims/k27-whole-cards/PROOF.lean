import PyProof.Rows.All
import Wide.All
import OpenK.AllK
import Wide.FinOn
import HandS.ForMost
import HandS.Flow
import HandS.IsInst
import HandS.Defaults
import HandS.Conv
import HandS.Style
import HandS.Wide
import HandS.WideBits
import HandS.DictComp
import HandS.Deep
import HandS.HeadHook1
import HandS.HeadHook2
import KE.KStateDown
import HandS.Head0
import HandS.Head1
import HandS.Head2
import HandS.HeadEnd
import HandS.HeadHook3
import HandS.HeadHook4
import Wide.Once
import KE.GoesMore
import HandS.Strs
import HandS.SetKeys
import PyProof.DictMoreH
import HandS.Zip
import KE.GoesEnumKw
import HandS.TupAny
import HandS.SetTxt0
import HandS.TupSets
import HandS.SetBool
import KE.KeyNested
import KE.SortData
import HandS.Codes
import PyProof.ListStr
import PySem.Challenge.RW_withinbooks_k27_whole_cards_of_writings
set_option Elab.async false
set_option linter.all false
set_option maxRecDepth 100000
set_option maxHeartbeats 4000001
/-! Marks and cards: the mathematics, without any program. -/
namespace Wb
inductive Mk where
  | full | free | some | many | never
  deriving DecidableEq, Repr
namespace Mk
def pref : Mk → Nat
  | full => 0 | free => 1 | some => 2 | many => 3 | never => 4
def rank : Mk → Nat
  | free => 0 | some => 1 | full => 2 | many => 3 | never => 4
end Mk
def later (a b : Mk) : Mk := if b.rank ≤ a.rank then a else b
def best2 (a b : Mk) : Mk := if a.pref ≤ b.pref then a else b
def bestL (l : List Mk) : Mk := l.foldl best2 .never
def allMk : List Mk := [.full, .free, .some, .many, .never]
theorem mem_allMk : ∀ a : Mk, a ∈ allMk := fun a => by cases a <;> decide
theorem later_assoc (a b c : Mk) : later (later a b) c = later a (later b c) := by cases a <;> cases b <;> cases c <;> rfl
theorem later_comm (a b : Mk) : later a b = later b a := by cases a <;> cases b <;> rfl
theorem later_free (a : Mk) : later a .free = a := by cases a <;> rfl
theorem free_later (a : Mk) : later .free a = a := by cases a <;> rfl
theorem later_never (a : Mk) : later a .never = .never := by cases a <;> rfl
theorem never_later (a : Mk) : later .never a = .never := by cases a <;> rfl
theorem best_assoc (a b c : Mk) : best2 (best2 a b) c = best2 a (best2 b c) := by cases a <;> cases b <;> cases c <;> rfl
theorem best_comm (a b : Mk) : best2 a b = best2 b a := by cases a <;> cases b <;> rfl
theorem best_never (a : Mk) : best2 a .never = a := by cases a <;> rfl
theorem never_best (a : Mk) : best2 .never a = a := by cases a <;> rfl
theorem best_self (a : Mk) : best2 a a = a := by cases a <;> rfl
theorem later_best (a b c : Mk) : later a (best2 b c) = best2 (later a b) (later a c) := by cases a <;> cases b <;> cases c <;> rfl
theorem best_later (a b c : Mk) : later (best2 a b) c = best2 (later a c) (later b c) := by cases a <;> cases b <;> cases c <;> rfl
theorem bestL_nil : bestL [] = .never := rfl
theorem foldl_best (l : List Mk) (a : Mk) : l.foldl best2 a = best2 a (bestL l) := by
  induction l generalizing a with
  | nil => exact (best_never a).symm
  | cons b l ih =>
    unfold bestL
    rw [List.foldl_cons, List.foldl_cons, ih, ih (best2 .never b), never_best, best_assoc]
theorem bestL_cons (a : Mk) (l : List Mk) : bestL (a :: l) = best2 a (bestL l) := by
  show l.foldl best2 (best2 .never a) = _
  rw [foldl_best, never_best]
theorem bestL_append (l r : List Mk) : bestL (l ++ r) = best2 (bestL l) (bestL r) := by
  induction l with
  | nil => rw [List.nil_append, bestL_nil, never_best]
  | cons a l ih => rw [List.cons_append, bestL_cons, bestL_cons, ih, best_assoc]
theorem bestL_never {l : List Mk} : bestL l = .never ↔ ∀ a ∈ l, a = .never := by
  induction l with
  | nil => simp [bestL_nil]
  | cons a l ih =>
    rw [bestL_cons]
    constructor
    · intro h b hb
      have h1 : a = .never ∧ bestL l = .never := by
        revert h; cases a <;> cases bestL l <;> decide
      rcases List.mem_cons.mp hb with rfl | hb
      · exact h1.1
      · exact ih.mp h1.2 b hb
    · intro h
      rw [h a (.head _), ih.mpr fun b hb => h b (.tail _ hb)]; rfl
/-- what the program looks for: the first of the marks in the order that stands there -/
def pick (l : List Mk) : Mk := if .full ∈ l then .full else if .free ∈ l then .free else if .some ∈ l then .some else if .many ∈ l then .many else .never
theorem pick_eq (l : List Mk) : pick l = bestL l := by
  induction l with
  | nil => rfl
  | cons a l ih =>
    rw [bestL_cons, ← ih]
    unfold pick
    by_cases h1 : Mk.full ∈ l <;> by_cases h2 : Mk.free ∈ l <;> by_cases h3 : Mk.some ∈ l <;> by_cases h4 : Mk.many ∈ l <;> cases a <;> simp [h1, h2, h3, h4] <;> rfl
theorem bestL_mem {l : List Mk} (h : bestL l ≠ .never) : bestL l ∈ l := by
  rw [← pick_eq] at h ⊢
  unfold pick at h ⊢
  split
  · assumption
  · split
    · assumption
    · split
      · assumption
      · split
        · assumption
        · simp_all
theorem bestL_le {l : List Mk} {a : Mk} (h : a ∈ l) : (bestL l).pref ≤ a.pref := by
  induction l with
  | nil => cases h
  | cons b l ih =>
    rw [bestL_cons]
    have h2 : ∀ x y : Mk, (best2 x y).pref ≤ x.pref ∧ (best2 x y).pref ≤ y.pref := by intro x y; cases x <;> cases y <;> decide
    rcases List.mem_cons.mp h with rfl | h
    · exact (h2 _ _).1
    · exact Nat.le_trans (h2 _ _).2 (ih h)
theorem pref_inj {a b : Mk} (h : a.pref = b.pref) : a = b := by revert h; cases a <;> cases b <;> decide
theorem bestL_eq_of {l r : List Mk} (h1 : ∀ a ∈ l, ∃ b ∈ r, b.pref ≤ a.pref) (h2 : ∀ b ∈ r, ∃ a ∈ l, a.pref ≤ b.pref) : bestL l = bestL r := by
  by_cases hl : bestL l = .never
  · by_cases hr : bestL r = .never
    · rw [hl, hr]
    · obtain ⟨a, ha, hle⟩ := h2 _ (bestL_mem hr)
      have := bestL_never.mp hl a ha
      subst this
      exfalso; apply hr; apply pref_inj
      have : (bestL r).pref ≤ 4 := by cases bestL r <;> decide
      have h4 : Mk.never.pref = 4 := rfl
      omega
  · obtain ⟨b, hb, hle⟩ := h1 _ (bestL_mem hl)
    have h3 := bestL_le hb
    by_cases hr : bestL r = .never
    · have := bestL_never.mp hr b hb
      subst this
      exfalso; apply hl; apply pref_inj
      have : (bestL l).pref ≤ 4 := by cases bestL l <;> decide
      have h4 : Mk.never.pref = 4 := rfl
      omega
    · obtain ⟨a, ha, hle2⟩ := h2 _ (bestL_mem hr)
      have h4 := bestL_le ha
      apply pref_inj; omega

/-! ### sums of marks -/
def S : Nat → (Nat → Mk) → Mk
  | 0, _ => .never
  | n + 1, F => best2 (S n F) (F n)
theorem S_eq (n : Nat) (F : Nat → Mk) : bestL ((List.range n).map F) = S n F := by
  induction n with
  | zero => rfl
  | succ n ih => rw [List.range_succ, List.map_append, bestL_append, ih, List.map_singleton, bestL_cons, bestL_nil, best_never]; rfl
theorem S_congr {n : Nat} {F G : Nat → Mk} (h : ∀ t, t < n → F t = G t) : S n F = S n G := by
  induction n with
  | zero => rfl
  | succ n ih => show best2 _ _ = best2 _ _; rw [ih fun t ht => h t (by omega), h n (by omega)]
theorem S_best (n : Nat) (F G : Nat → Mk) : S n (fun t => best2 (F t) (G t)) = best2 (S n F) (S n G) := by
  induction n with
  | zero => rfl
  | succ n ih =>
    show best2 (S n _) _ = best2 (best2 _ _) (best2 _ _)
    rw [ih, best_assoc, best_assoc, ← best_assoc (S n G) (F n), best_comm (S n G) (F n), best_assoc]
theorem S_never (n : Nat) : S n (fun _ => .never) = .never := by
  induction n with
  | zero => rfl
  | succ n ih => show best2 _ _ = _; rw [ih]; rfl
theorem S_swap (n m : Nat) (F : Nat → Nat → Mk) : S n (fun i => S m fun j => F i j) = S m fun j => S n fun i => F i j := by
  induction n with
  | zero => exact (S_never m).symm
  | succ n ih => show best2 (S n _) _ = _; rw [ih, ← S_best]; rfl
theorem later_S (a : Mk) (n : Nat) (F : Nat → Mk) : later a (S n F) = S n fun t => later a (F t) := by
  induction n with
  | zero => exact later_never a
  | succ n ih => show later a (best2 _ _) = best2 _ _; rw [later_best, ih]
theorem S_later (a : Mk) (n : Nat) (F : Nat → Mk) : later (S n F) a = S n fun t => later (F t) a := by
  rw [later_comm, later_S]; exact S_congr fun t _ => later_comm _ _
theorem S_ne {n : Nat} {F : Nat → Mk} (h : S n F ≠ .never) : ∃ t, t < n ∧ F t = S n F := by
  rw [← S_eq] at h ⊢
  obtain ⟨t, ht, e⟩ := List.mem_map.mp (bestL_mem h)
  exact ⟨t, List.mem_range.mp ht, e⟩
theorem S_le {n : Nat} {F : Nat → Mk} {t : Nat} (h : t < n) : (S n F).pref ≤ (F t).pref := by
  rw [← S_eq]; exact bestL_le (List.mem_map.mpr ⟨t, List.mem_range.mpr h, rfl⟩)

/-! ### cards -/
abbrev Crd := Nat → Nat → Mk
def mul (n : Nat) (f g : Crd) : Crd := fun i j => S n fun t => later (f i t) (g t j)
def one : Crd := fun i j => if i = j then .free else .never
/-- equal within n rooms -/
def EqC (n : Nat) (f g : Crd) : Prop := ∀ i, i < n → ∀ j, j < n → f i j = g i j
instance (n : Nat) (f g : Crd) : Decidable (EqC n f g) := inferInstanceAs (Decidable (∀ i, i < n → ∀ j, j < n → f i j = g i j))
theorem EqC.refl (n : Nat) (f : Crd) : EqC n f f := fun _ _ _ _ => rfl
theorem EqC.symm {n : Nat} {f g : Crd} (h : EqC n f g) : EqC n g f := fun i hi j hj => (h i hi j hj).symm
theorem EqC.trans {n : Nat} {f g k : Crd} (h : EqC n f g) (h2 : EqC n g k) : EqC n f k := fun i hi j hj => (h i hi j hj).trans (h2 i hi j hj)
theorem mul_congr {n : Nat} {f f' g g' : Crd} (h : EqC n f f') (h2 : EqC n g g') : EqC n (mul n f g) (mul n f' g') := fun i hi j hj =>
  S_congr fun t ht => by rw [h i hi t ht, h2 t ht j hj]
theorem mul_assoc (n : Nat) (f g k : Crd) : mul n (mul n f g) k = mul n f (mul n g k) := by
  funext i j
  show S n (fun t => later (S n fun u => later (f i u) (g u t)) (k t j)) = S n fun t => later (f i t) (S n fun u => later (g t u) (k u j))
  have h1 : ∀ t, later (S n fun u => later (f i u) (g u t)) (k t j) = S n fun u => later (f i u) (later (g u t) (k t j)) := fun t => by
    rw [S_later]; exact S_congr fun u _ => later_assoc _ _ _
  have h2 : ∀ t, later (f i t) (S n fun u => later (g t u) (k u j)) = S n fun u => later (f i t) (later (g t u) (k u j)) := fun t => later_S _ _ _
  simp only [h1, h2]
  exact S_swap n n fun t u => later (f i u) (later (g u t) (k t j))
theorem S_one {n i : Nat} (hi : i < n) (F : Nat → Mk) : S n (fun t => if t = i then F t else .never) = F i := by
  induction n with
  | zero => omega
  | succ n ih =>
    show best2 (S n _) (if n = i then F n else .never) = _
    by_cases h : i = n
    · subst h
      rw [if_pos rfl, S_congr (G := fun _ => .never) (fun t ht => if_neg (by omega)), S_never, never_best]
    · rw [ih (by omega), if_neg (fun e : n = i => h e.symm), best_never]
theorem one_mul {n : Nat} (f : Crd) : EqC n (mul n one f) f := fun i hi j hj => by
  show S n (fun t => later (one i t) (f t j)) = f i j
  rw [S_congr (G := fun t => if t = i then f t j else .never) fun t _ => ?_]
  · exact S_one hi fun t => f t j
  · unfold one
    by_cases h : i = t
    · subst h; rw [if_pos rfl, if_pos rfl, free_later]
    · rw [if_neg h, if_neg (fun e => h e.symm), never_later]
theorem mul_one {n : Nat} (f : Crd) : EqC n (mul n f one) f := fun i hi j hj => by
  show S n (fun t => later (f i t) (one t j)) = f i j
  rw [S_congr (G := fun t => if t = j then f i t else .never) fun t _ => ?_]
  · exact S_one hj fun t => f i t
  · unfold one
    by_cases h : t = j
    · rw [if_pos h, if_pos h, later_free]
    · rw [if_neg h, if_neg h, later_never]
/-- k + 1 copies -/
def pw (n : Nat) (f : Crd) : Nat → Crd
  | 0 => f
  | k + 1 => mul n (pw n f k) f
theorem pw_add (n : Nat) (f : Crd) (a b : Nat) : mul n (pw n f a) (pw n f b) = pw n f (a + b + 1) := by
  induction b with
  | zero => rfl
  | succ b ih => show mul n _ (mul n (pw n f b) f) = mul n (pw n f (a + b + 1)) f; rw [← mul_assoc, ih]
theorem pw_congr {n : Nat} {f g : Crd} (h : EqC n f g) : ∀ k, EqC n (pw n f k) (pw n g k)
  | 0 => h
  | k + 1 => mul_congr (pw_congr h k) h
theorem S_congr' {n : Nat} {F G : Nat → Mk} (h : F = G) : S n F = S n G := h ▸ rfl

/-! ### a steady power -/
def codeMk : Mk → Nat
  | .full => 0 | .free => 1 | .some => 2 | .many => 3 | .never => 4
theorem codeMk_lt (a : Mk) : codeMk a < 5 := by cases a <;> decide
theorem codeMk_inj {a b : Mk} (h : codeMk a = codeMk b) : a = b := by revert h; cases a <;> cases b <;> decide
/-- the number of the marks of l -/
def codeL : List Mk → Nat
  | [] => 0
  | a :: l => codeMk a + 5 * codeL l
theorem codeL_lt : ∀ l : List Mk, codeL l < 5 ^ l.length
  | [] => by decide
  | a :: l => by
    have h1 := codeMk_lt a
    have h2 := codeL_lt l
    show codeMk a + 5 * codeL l < 5 ^ (l.length + 1)
    rw [Nat.pow_succ]; omega
theorem codeL_inj : ∀ {l r : List Mk}, l.length = r.length → codeL l = codeL r → l = r
  | [], [], _, _ => rfl
  | a :: l, b :: r, h, e => by
    have h1 := codeMk_lt a
    have h2 := codeMk_lt b
    have e' : codeMk a + 5 * codeL l = codeMk b + 5 * codeL r := e
    have e1 : codeMk a = codeMk b := by omega
    have e2 : codeL l = codeL r := by omega
    rw [codeMk_inj e1, codeL_inj (Nat.succ.inj h) e2]
def flat (n : Nat) (f : Crd) : List Mk := (List.range n).flatMap fun i => (List.range n).map fun j => f i j
theorem flat_length (n : Nat) (f : Crd) : (flat n f).length = n * n := by
  have h : ∀ m : Nat, ((List.range m).flatMap fun i => (List.range n).map fun j => f i j).length = m * n := by
    intro m
    induction m with
    | zero => simp
    | succ m ih => rw [List.range_succ, List.flatMap_append, List.length_append, ih]; simp [Nat.succ_mul]
  exact h n
theorem flat_eq {n : Nat} {f g : Crd} (h : flat n f = flat n g) : EqC n f g := by
  have key : ∀ m : Nat, ((List.range m).flatMap fun i => (List.range n).map fun j => f i j) = ((List.range m).flatMap fun i => (List.range n).map fun j => g i j) → ∀ i, i < m → ∀ j, j < n → f i j = g i j := by
    intro m
    induction m with
    | zero => intro _ i hi; omega
    | succ m ih =>
      intro h i hi j hj
      rw [List.range_succ, List.flatMap_append, List.flatMap_append] at h
      obtain ⟨h1, h2⟩ := List.append_inj' h (by simp)
      by_cases e : i = m
      · subst e
        have h3 : ((List.range n).map fun j => f i j) = (List.range n).map fun j => g i j := by simpa using h2
        have h4 := congrArg (fun l => l[j]?) h3
        simpa [hj] using h4
      · exact ih h1 i (by omega) j hj
  exact key n h
/-- two of so many numbers below N are equal -/
theorem pigeon : ∀ (N : Nat) (c : Nat → Nat), (∀ k, k ≤ N → c k < N) → ∃ a b, a < b ∧ b ≤ N ∧ c a = c b
  | 0, c, h => absurd (h 0 (Nat.le_refl _)) (Nat.not_lt_zero _)
  | N + 1, c, h => by
    by_cases hx : ∃ a, a ≤ N ∧ c a = c (N + 1)
    · obtain ⟨a, ha, e⟩ := hx
      exact ⟨a, N + 1, by omega, Nat.le_refl _, e⟩
    · -- no earlier one meets the last: take its value out
      have h' : ∀ k, k ≤ N → (if c k = N then c (N + 1) else c k) < N := by
        intro k hk
        have h1 := h k (by omega)
        have h2 := h (N + 1) (Nat.le_refl _)
        have h3 : c k ≠ c (N + 1) := fun e => hx ⟨k, hk, e⟩
        split <;> omega
      obtain ⟨a, b, hab, hb, e⟩ := pigeon N (fun k => if c k = N then c (N + 1) else c k) h'
      refine ⟨a, b, hab, by omega, ?_⟩
      have ha1 : c a ≠ c (N + 1) := fun e => hx ⟨a, by omega, e⟩
      have hb1 : c b ≠ c (N + 1) := fun e => hx ⟨b, hb, e⟩

      split at e <;> split at e <;> omega
/-- powers come back: a < b and f^(a+1) = f^(b+1) -/
theorem pw_back (n : Nat) (f : Crd) : ∃ a b, a < b ∧ b ≤ 5 ^ (n * n) ∧ EqC n (pw n f a) (pw n f b) := by
  obtain ⟨a, b, h1, h2, h3⟩ := pigeon (5 ^ (n * n)) (fun k => codeL (flat n (pw n f k))) fun k _ => by
    have := codeL_lt (flat n (pw n f k))
    rwa [flat_length] at this
  exact ⟨a, b, h1, h2, flat_eq (codeL_inj (by rw [flat_length, flat_length]) h3)⟩
theorem pw_shift {n : Nat} {f : Crd} {a b : Nat} (h : EqC n (pw n f a) (pw n f b)) : ∀ c, EqC n (pw n f (a + c)) (pw n f (b + c))
  | 0 => h
  | c + 1 => mul_congr (pw_shift h c) (EqC.refl n f)
theorem pw_loop {n : Nat} {f : Crd} {a p : Nat} (h : EqC n (pw n f a) (pw n f (a + p))) : ∀ q c, EqC n (pw n f (a + c)) (pw n f (a + c + q * p))
  | 0, c => by rw [Nat.zero_mul]; exact EqC.refl _ _
  | q + 1, c => by
    refine (pw_loop h q c).trans ?_
    have := pw_shift h (c + q * p)
    rw [← Nat.add_assoc] at this
    refine this.trans ?_
    have e : a + p + (c + q * p) = a + c + (q + 1) * p := by rw [Nat.succ_mul]; omega
    rw [e]; exact EqC.refl _ _
/-- put behind itself it is itself -/
def Steady (n : Nat) (f : Crd) : Prop := EqC n (mul n f f) f
/-- some power within 5^(n*n) is steady -/
theorem steady_power (n : Nat) (f : Crd) : ∃ k, k ≤ 5 ^ (n * n) ∧ Steady n (pw n f k) := by
  obtain ⟨a, b, hab, hb, h⟩ := pw_back n f
  -- period p = b - a, k + 1 the least multiple of p above a
  let p := b - a
  have hp : 0 < p := by show 0 < b - a; omega
  have hb' : b = a + p := by show b = a + (b - a); omega
  rw [hb'] at h
  let q := a / p + 1
  have hq : a < q * p := by
    show a < (a / p + 1) * p
    have := Nat.lt_div_mul_add (a := a) hp
    rw [Nat.succ_mul]; omega
  have hq2 : q * p ≤ a + p := by
    show (a / p + 1) * p ≤ a + p
    have := Nat.div_mul_le_self a p
    rw [Nat.succ_mul]; omega
  refine ⟨q * p - 1, by omega, ?_⟩
  show EqC n (mul n (pw n f (q * p - 1)) (pw n f (q * p - 1))) (pw n f (q * p - 1))
  rw [pw_add]
  have e1 : q * p - 1 = a + (q * p - 1 - a) := by omega
  have := pw_loop h q (q * p - 1 - a)
  rw [← e1] at this
  have e2 : q * p - 1 + (q * p - 1) + 1 = q * p - 1 + q * p := by omega
  rw [e2]
  exact this.symm
theorem Steady.pw {n : Nat} {f : Crd} (h : Steady n f) : ∀ k, EqC n (pw n f k) f
  | 0 => EqC.refl n f
  | k + 1 => (mul_congr (Steady.pw h k) (EqC.refl n f)).trans h
theorem pw_pw (n : Nat) (f : Crd) (a : Nat) : ∀ b, pw n (pw n f a) b = pw n f ((a + 1) * (b + 1) - 1)
  | 0 => by rw [Nat.mul_one]; rfl
  | b + 1 => by
    show mul n (pw n (pw n f a) b) (pw n f a) = _
    rw [pw_pw n f a b, pw_add]
    congr 1
    have : (a + 1) * (b + 1 + 1) = (a + 1) * (b + 1) + (a + 1) := by rw [Nat.mul_succ]
    have h2 : 0 < (a + 1) * (b + 1) := Nat.mul_pos (by omega) (by omega)
    omega
end Wb
/-! Data in the heap, and what expressions come to. -/
namespace Wb
open PySem PySem.Spec L2

/-! ### the data -/
inductive Eff where
  | coins (a : Nat)
  | fill (a b : Nat)
  deriving DecidableEq
structure Mnr where
  room : Str
  job : Str
  other : Str
  eff : Eff
  deriving DecidableEq
structure Mn where
  rows : List Mnr
  firsts : List Str
  lasts : List Str
  rooms : List Str
inductive D where
  | non | bl (b : Bool) | int (i : Int) | str (s : Str)
  | tup (ds : List D) | lst (ds : List D)
  | dct (F : Str → Option V)
  | man (m : Mn)
  | rng (lo hi : Int)
  | ty (n : String)
  | obj (a : Addr)
def Eff.d : Eff → D
  | .coins a => .tup [.str "coins", .int a]
  | .fill a b => .tup [.str "fill", .int a, .int b]
def Mnr.d (m : Mnr) : D := .tup [.str m.room, .str m.job, .str m.other, m.eff.d]

/-- what stands stays as it is -/
def Ext (H H' : Hp) : Prop := ∀ a o, H a = some o → H' a = some o
theorem Ext.refl (H : Hp) : Ext H H := fun _ _ h => h
theorem Ext.trans {H H1 H2 : Hp} (a : Ext H H1) (b : Ext H1 H2) : Ext H H2 := fun x o h => b x o (a x o h)
theorem Ext.new {H : Hp} {p : Addr} {o : HO} (h : H p = none) : Ext H (upd H p o) := fun a u e => by
  rw [upd_ne (ne_of_none e h)]; exact e
theorem Ext.mut {H H' : Hp} {p : Addr} {o : HO} (e : Ext H H') (h : H p = none) : Ext H (upd H' p o) := fun a u ha => by
  rw [upd_ne (ne_of_none ha h)]; exact e a u ha
theorem Ext.back {H H' : Hp} {p : Addr} (e : Ext H H') (h : H' p = none) : H p = none := by
  cases h1 : H p with
  | none => rfl
  | some o => rw [e p o h1] at h; cases h

mutual
/-- the value v is the data d in the heap H -/
inductive Is (K : PySem.W.Frag) (H : Hp) : V → D → Prop
  | non : Is K H .non .non
  | bl (b : Bool) : Is K H (.bl b) (.bl b)
  | int (i : Int) : Is K H (.int i) (.int i)
  | str (x : Str) : Is K H (.str x) (.str x)
  | lst {a : Addr} {xs : List V} {ds : List D} : H a = some (.lst xs) → IsAll K H xs ds → Is K H (.ref a) (.lst ds)
  | tup {a : Addr} {xs : List V} {ds : List D} : SqT K H a xs → IsAll K H xs ds → Is K H (.ref a) (.tup ds)
  | dct {a : Addr} {kvs : List (Key × V)} {F : Str → Option V} {ks : List Str} : H a = some (.dK kvs) → (∀ r, valV kvs (Sum.inr r) = F r) → kvs.map (·.1) = ks.map Sum.inr → kvs.length ≤ 60 → Is K H (.ref a) (.dct F)
  | man {x dx a1 a2 a3 a4 a5 : Addr} {m : Mn} : H x = some (.ins (He.ga K "Manual") dx [("rows", .ref a1), ("firsts", .ref a2), ("lasts", .ref a3), ("rooms", .ref a4), ("jobs", .ref a5)]) →
      Is K H (.ref a1) (.lst (m.rows.map Mnr.d)) → Is K H (.ref a2) (.lst (m.firsts.map D.str)) → Is K H (.ref a3) (.lst (m.lasts.map D.str)) → Is K H (.ref a4) (.lst (m.rooms.map D.str)) → Is K H (.ref x) (.man m)
  | rng {a : Addr} {lo hi : Int} : H a = some (.rng lo hi) → Is K H (.ref a) (.rng lo hi)
  | ty (n : String) : Is K H (.ty n) (.ty n)
  | obj (a : Addr) : Is K H (.ref a) (.obj a)
inductive IsAll (K : PySem.W.Frag) (H : Hp) : List V → List D → Prop
  | nil : IsAll K H [] []
  | cons {v : V} {vs : List V} {d : D} {ds : List D} : Is K H v d → IsAll K H vs ds → IsAll K H (v :: vs) (d :: ds)
end

theorem sqL_mono {K : PySem.W.Frag} {H H' : Hp} {a : Addr} {xs : List V} (e : Ext H H') (h : H a = some (.lst xs)) : SqL K H' a xs := .of (e _ _ h)
theorem sqT_mono {K : PySem.W.Frag} {H H' : Hp} {a : Addr} {xs : List V} (e : Ext H H') (h : SqT K H a xs) : SqT K H' a xs := by
  rcases h with (h | ⟨o, h⟩) | h
  · exact .inl (.inl (e _ _ h))
  · exact .inl (.inr ⟨o, e _ _ h⟩)
  · exact .inr h
section
variable {K : PySem.W.Frag} {H H' : Hp}
mutual
theorem Is.mono (e : Ext H H') : ∀ {v : V} {d : D}, Is K H v d → Is K H' v d
  | _, _, .non => .non
  | _, _, .bl b => .bl b
  | _, _, .int i => .int i
  | _, _, .str x => .str x
  | _, _, .lst h t => .lst (e _ _ h) (t.mono e)
  | _, _, .tup h t => .tup (sqT_mono e h) (t.mono e)
  | _, _, .dct h a b c => .dct (e _ _ h) a b c
  | _, _, .man h h1 h2 h3 h4 => .man (e _ _ h) (h1.mono e) (h2.mono e) (h3.mono e) (h4.mono e)
  | _, _, .rng h => .rng (e _ _ h)
  | _, _, .ty n => .ty n
  | _, _, .obj a => .obj a
theorem IsAll.mono (e : Ext H H') : ∀ {vs : List V} {ds : List D}, IsAll K H vs ds → IsAll K H' vs ds
  | _, _, .nil => .nil
  | _, _, .cons h t => .cons (h.mono e) (t.mono e)
end
theorem IsAll.length : ∀ {vs : List V} {ds : List D}, IsAll K H vs ds → vs.length = ds.length
  | _, _, .nil => rfl
  | _, _, .cons _ t => congrArg (· + 1) t.length
theorem IsAll.get : ∀ {vs : List V} {ds : List D} {i : Nat} {d : D}, IsAll K H vs ds → ds[i]? = some d → ∃ v, vs[i]? = some v ∧ Is K H v d
  | _, _, 0, _, .cons h _, e => ⟨_, rfl, by cases e; exact h⟩
  | _, _, i + 1, _, .cons _ t, e => t.get (i := i) e
theorem IsAll.get' : ∀ {vs : List V} {ds : List D} {i : Nat} {v : V}, IsAll K H vs ds → vs[i]? = some v → ∃ d, ds[i]? = some d ∧ Is K H v d
  | _, _, 0, _, .cons h _, e => ⟨_, rfl, by cases e; exact h⟩
  | _, _, i + 1, _, .cons _ t, e => t.get' (i := i) e
theorem IsAll.append : ∀ {vs ws : List V} {ds es : List D}, IsAll K H vs ds → IsAll K H ws es → IsAll K H (vs ++ ws) (ds ++ es)
  | _, _, _, _, .nil, s => s
  | _, _, _, _, .cons h t, s => .cons h (t.append s)
theorem IsAll.take : ∀ {vs : List V} {ds : List D} (n : Nat), IsAll K H vs ds → IsAll K H (vs.take n) (ds.take n)
  | _, _, 0, _ => .nil
  | _, _, _ + 1, .nil => .nil
  | _, _, n + 1, .cons h t => .cons h (t.take n)
theorem IsAll.drop : ∀ {vs : List V} {ds : List D} (n : Nat), IsAll K H vs ds → IsAll K H (vs.drop n) (ds.drop n)
  | _, _, 0, h => h
  | _, _, _ + 1, .nil => .nil
  | _, _, n + 1, .cons _ t => t.drop n
theorem isAll_strs : ∀ {vs : List V} {ss : List Str}, IsAll K H vs (ss.map D.str) → vs = ss.map V.str
  | _, [], .nil => rfl
  | _, s :: ss, .cons h t => by cases h; rw [isAll_strs t]; rfl
theorem isAll_ofStrs : ∀ ss : List Str, IsAll K H (ss.map V.str) (ss.map D.str)
  | [] => .nil
  | s :: ss => .cons (.str s) (isAll_ofStrs ss)
theorem isAll_ints : ∀ {vs : List V} {ss : List Int}, IsAll K H vs (ss.map D.int) → vs = ss.map V.int
  | _, [], .nil => rfl
  | _, s :: ss, .cons h t => by cases h; rw [isAll_ints t]; rfl
theorem isAll_bls : ∀ {vs : List V} {ss : List Bool}, IsAll K H vs (ss.map D.bl) → vs = ss.map V.bl
  | _, [], .nil => rfl
  | _, s :: ss, .cons h t => by cases h; rw [isAll_bls t]; rfl
end

/-! ### running from here -/
section
variable {X : Cx} {e a b : Expr} {σ : L2.St} {H : Hp} {pos : Pos}
structure WE (X : Cx) (e : Expr) (σ : L2.St) (H : Hp) (Q : VK) : Prop where
  run : ∀ pins s, Inv X pins σ H s → wpAny (model X.prog X.w) X.A (eval e X.env) (EP X pins σ Q) X.xe s
theorem WE.pe : PE X e (WE X e) := ⟨fun pins s σ H Q I h => h.run pins s I⟩
theorem WE.of {t : TE} {Q : VK} (h : PE X e t) (q : t σ H Q) : WE X e σ H Q := ⟨fun pins s I => h.run pins s σ H Q I q⟩
structure WT (X : Cx) (e : Expr) (σ : L2.St) (H : Hp) (Q : Bool → Hp → Prop) : Prop where
  run : ∀ pins s, Inv X pins σ H s → wpAny (model X.prog X.w) X.A (isTrue e X.env (eval e X.env)) (TP X pins σ Q) X.xe s
theorem WT.pt : PT X e (WT X e) := ⟨fun pins s σ H Q I h => h.run pins s I⟩
theorem WT.of {t : TT} {Q : Bool → Hp → Prop} (h : PT X e t) (q : t σ H Q) : WT X e σ H Q := ⟨fun pins s I => h.run pins s σ H Q I q⟩
structure WS (X : Cx) (st : Stmt) (D : Ends) (σ : L2.St) (H : Hp) : Prop where
  run : ∀ pins s, Inv X pins σ H s → wpAny (model X.prog X.w) X.A (exec st X.env) (SP X pins D) X.xe s
theorem WS.ps {st : Stmt} : PS X st (WS X st) := ⟨fun pins s σ H D I h => h.run pins s I⟩
theorem WS.of {st : Stmt} {t : TS} {D : Ends} (h : PS X st t) (q : t D σ H) : WS X st D σ H := ⟨fun pins s I => h.run pins s σ H D I q⟩
structure WSs (X : Cx) (sts : List Stmt) (D : Ends) (σ : L2.St) (H : Hp) : Prop where
  run : ∀ pins s, Inv X pins σ H s → wpAny (model X.prog X.w) X.A (execs sts X.env) (SP X pins D) X.xe s
theorem WSs.pss {sts : List Stmt} : PSs X sts (WSs X sts) := ⟨fun pins s σ H D I h => h.run pins s I⟩
theorem WSs.of {sts : List Stmt} {t : TS} {D : Ends} (h : PSs X sts t) (q : t D σ H) : WSs X sts D σ H := ⟨fun pins s I => h.run pins s σ H D I q⟩
theorem wss_cons {st : Stmt} {r : List Stmt} {D : Ends} (h : WS X st { D with nx := WSs X r D } σ H) : WSs X (st :: r) D σ H := WSs.of (pss_cons WS.ps WSs.pss) h
theorem wss_one {st : Stmt} {D : Ends} (h : WS X st D σ H) : WSs X [st] D σ H := WSs.of (pss_one WS.ps) h
theorem wss_nil {D : Ends} (h : D.nx σ H) : WSs X [] D σ H := WSs.of pss_nil h

/-- e comes to the data d, whatever more the heap holds -/
def Ev (X : Cx) (σ : L2.St) (H : Hp) (e : Expr) (d : D) : Prop := ∀ H1, Ext H H1 → ∀ Q : VK, (∀ v H2, Ext H1 H2 → Is X.K H2 v d → Q v H2) → WE X e σ H1 Q
def EvT (X : Cx) (σ : L2.St) (H : Hp) (e : Expr) (b : Bool) : Prop := ∀ H1, Ext H H1 → ∀ Q : Bool → Hp → Prop, (∀ H2, Ext H1 H2 → Q b H2) → WT X e σ H1 Q
/-- the same of a part of a chain of and, or -/
structure WW (X : Cx) (e : Expr) (σ : L2.St) (H : Hp) (Q : Bool → Hp → Prop) : Prop where
  run : ∀ whole pins s, Inv X pins σ H s → wpAny (model X.prog X.w) X.A (isTrue e X.env whole) (TP X pins σ Q) X.xe s
theorem WW.pw : PW X e (WW X e) := ⟨fun whole pins s σ H Q I h => h.run whole pins s I⟩
theorem WW.of {t : TT} {Q : Bool → Hp → Prop} (h : PW X e t) (q : t σ H Q) : WW X e σ H Q := ⟨fun whole pins s I => h.run whole pins s σ H Q I q⟩
def EvW (X : Cx) (σ : L2.St) (H : Hp) (e : Expr) (b : Bool) : Prop := ∀ H1, Ext H H1 → ∀ Q : Bool → Hp → Prop, (∀ H2, Ext H1 H2 → Q b H2) → WW X e σ H1 Q
/-- arguments -/
structure WA (X : Cx) (es : List Expr) (σ : L2.St) (H : Hp) (Q : List V → Hp → Prop) : Prop where
  run : ∀ pos pins s, Inv X pins σ H s → wpAny (model X.prog X.w) X.A (spliced (backTo pos (starEach es X.env))) (AP X pins σ Q) X.xe s
theorem WA.pa {es : List Expr} : PA X es (WA X es) := ⟨fun pos pins s σ H Q I h => h.run pos pins s I⟩
theorem WA.of {es : List Expr} {t : TA} {Q : List V → Hp → Prop} (h : PA X es t) (q : t σ H Q) : WA X es σ H Q := ⟨fun pos pins s I => h.run pos pins s σ H Q I q⟩
def EvA (X : Cx) (σ : L2.St) (H : Hp) (es : List Expr) (ds : List D) : Prop := ∀ H1, Ext H H1 → ∀ Q : List V → Hp → Prop, (∀ vs H2, Ext H1 H2 → IsAll X.K H2 vs ds → Q vs H2) → WA X es σ H1 Q
/-- operators, calls by values -/
def R2D (K : PySem.W.Frag) (r : R2) (da db d : D) : Prop := ∀ x y H, Is K H x da → Is K H y db → ∀ Q : VK, (∀ v H2, Ext H H2 → Is K H2 v d → Q v H2) → r x y H Q
def RCD (K : PySem.W.Frag) (r : List V → Hp → VK → Prop) (ds : List D) (d : D) : Prop := ∀ vs H, IsAll K H vs ds → ∀ Q : VK, (∀ v H2, Ext H H2 → Is K H2 v d → Q v H2) → r vs H Q

theorem Ev.mono {H' : Hp} {d : D} (x : Ext H H') (h : Ev X σ H e d) : Ev X σ H' e d := fun H1 e1 => h H1 (x.trans e1)
theorem Ev.is {d d' : D} (h : Ev X σ H e d) (q : d = d') : Ev X σ H e d' := q ▸ h
theorem EvT.is {c d : Bool} (h : EvT X σ H e c) (q : c = d) : EvT X σ H e d := q ▸ h
theorem EvT.mono {H' : Hp} {c : Bool} (x : Ext H H') (h : EvT X σ H e c) : EvT X σ H' e c := fun H1 e1 => h H1 (x.trans e1)

theorem ev_var {i : Nat} {x : Str} {v : V} {d : D} (hs : σ[i]? = some (some v)) (h : Is X.K H v d) (hN : X.N[i]? = some x := by rfl) (hv : Vis X.env.scope x := by first | exact Or.inl rfl | exact Or.inr (Or.inl rfl) | exact Or.inr (Or.inr rfl))
    (hd : (x == ("__debug__" : Str)) = false := by decide) (hcd : (x == ("__classdict__" : Str)) = false := by decide) : Ev X σ H (.Name x pos) d :=
  fun H1 e1 Q q => WE.of (pe_var hN hv hd hcd) ⟨v, hs, q v H1 (Ext.refl _) (h.mono e1)⟩
theorem ev_int {i : Int} {j : Nat} : Ev X σ H (.Constant (.int i) j pos) (.int i) := fun H1 _ Q q => WE.of pe_int (q _ H1 (Ext.refl _) (.int i))
theorem ev_bl {c : Bool} {j : Nat} : Ev X σ H (.Constant (.bool c) j pos) (.bl c) := fun H1 _ Q q => WE.of pe_bl (q _ H1 (Ext.refl _) (.bl c))
theorem ev_non {j : Nat} : Ev X σ H (.Constant .none j pos) .non := fun H1 _ Q q => WE.of pe_non (q _ H1 (Ext.refl _) .non)
theorem ev_str {x : Str} {j : Nat} : Ev X σ H (.Constant (.str x) j pos) (.str x) := fun H1 _ Q q => WE.of pe_str (q _ H1 (Ext.refl _) (.str x))
/-- a module's constant -/
theorem ev_glob {x : Str} {v : V} {u : Value} {d : D} (hg : Gl X x) (hm : X.mg x = some u) (r : RelV v u) (h : Is X.K H v d) (hd : (x == ("__debug__" : Str)) = false := by decide) : Ev X σ H (.Name x pos) d :=
  fun H1 e1 Q q => WE.of (pe_glob hg hm r hd) (q v H1 (Ext.refl _) (h.mono e1))

theorem ev_bin {op : Operator} {r : R2} {da db d : D} (ho : OpR X (binaryOp op) r) (hr : R2D X.K r da db d) (ha : Ev X σ H a da) (hb : Ev X σ H b db) : Ev X σ H (.BinOp a op b pos) d :=
  fun H1 e1 Q q => WE.of (pe_op ho WE.pe WE.pe) (ha H1 e1 _ fun x H2 e2 hx => hb H2 (e1.trans e2) _ fun y H3 e3 hy => hr x y H3 (hx.mono e3) hy Q fun v H4 e4 hv => q v H4 (e2.trans (e3.trans e4)) hv)
theorem ev_cmp {op : CmpOp} {r : R2} {da db d : D} (ho : OpR X (compareOp op) r) (hr : R2D X.K r da db d) (ha : Ev X σ H a da) (hb : Ev X σ H b db) (hm : behindInMarks op b = false := by first | exact nobehind _ (by decide) (by decide) | rfl) : Ev X σ H (.Compare a [op] [b] pos) d :=
  fun H1 e1 Q q => WE.of (pe_cmpR ho WE.pe WE.pe hm) (ha H1 e1 _ fun x H2 e2 hx => hb H2 (e1.trans e2) _ fun y H3 e3 hy => hr x y H3 (hx.mono e3) hy Q fun v H4 e4 hv => q v H4 (e2.trans (e3.trans e4)) hv)
theorem evt_cmp {op : CmpOp} {r : R2} {da db : D} {c : Bool} (ho : OpR X (compareOp op) r) (hr : R2D X.K r da db (.bl c)) (ha : Ev X σ H a da) (hb : Ev X σ H b db) (hm : behindInMarks op b = false := by first | exact nobehind _ (by decide) (by decide) | rfl) : EvT X σ H (.Compare a [op] [b] pos) c :=
  fun H1 e1 Q q => WT.of (pt_cmpR ho WE.pe WE.pe hm) (ha H1 e1 _ fun x H2 e2 hx => hb H2 (e1.trans e2) _ fun y H3 e3 hy => hr x y H3 (hx.mono e3) hy _ fun v H4 e4 hv => by cases hv; exact ⟨c, rfl, q H4 (e2.trans (e3.trans e4))⟩)
theorem ev_ix {r : R2} {da db d : D} (ho : IxR X r) (hr : R2D X.K r da db d) (ha : Ev X σ H a da) (hb : Ev X σ H b db) (hs : PlainIx b := by exact fun _ _ => rfl) : Ev X σ H (.Subscript a b pos) d :=
  fun H1 e1 Q q => WE.of (pe_ix ho WE.pe WE.pe hs) (ha H1 e1 _ fun x H2 e2 hx => hb H2 (e1.trans e2) _ fun y H3 e3 hy => hr x y H3 (hx.mono e3) hy Q fun v H4 e4 hv => q v H4 (e2.trans (e3.trans e4)) hv)
/-- a bool value as a test (a call, a name) -/
theorem evt_val {c : Bool} (h : Ev X σ H e (.bl c)) (he : ∀ whole, isTrue e X.env whole = (do let v ← whole; standAt e.pos; holding [v] (truthy v)) := by intro _; rfl) : EvT X σ H e c :=
  fun H1 e1 Q q => WT.of (pt_val WE.pe he) (h H1 e1 _ fun v H2 e2 hv => by cases hv; exact ⟨c, rfl, q H2 e2⟩)
theorem evt_not {c : Bool} (h : EvT X σ H a c) : EvT X σ H (.UnaryOp .Not a pos) (!c) := fun H1 e1 Q q => WT.of (pt_not WT.pt) (h H1 e1 _ fun H2 e2 => q H2 e2)
theorem ev_not {c : Bool} (h : Ev X σ H a (.bl c)) : Ev X σ H (.UnaryOp .Not a pos) (.bl (!c)) := fun H1 e1 Q q => WE.of (pe_not WE.pe) (h H1 e1 _ fun v H2 e2 hv => by cases hv; exact ⟨c, rfl, q _ H2 e2 (.bl _)⟩)
theorem ev_one {op} {d : D} (h : Ev X σ H a d) : Ev X σ H (.BoolOp op [a] pos) d := fun H1 e1 Q q => WE.of (pe_one WE.pe) (h H1 e1 Q q)
theorem ev_and {rest : List Expr} {c d : Bool} (h : Ev X σ H a (.bl c)) (h2 : c = true → Ev X σ H (.BoolOp .And (b :: rest) pos) (.bl d)) : Ev X σ H (.BoolOp .And (a :: b :: rest) pos) (.bl (c && d)) :=
  fun H1 e1 Q q => WE.of (pe_and WE.pe WE.pe) (h H1 e1 _ fun v H2 e2 hv => by
    cases hv
    refine ⟨c, rfl, ?_⟩
    cases c with
    | true => exact h2 rfl H2 (e1.trans e2) Q fun v H3 e3 hv => q v H3 (e2.trans e3) hv
    | false => exact q _ H2 e2 (.bl false))
theorem ev_or {rest : List Expr} {c d : Bool} (h : Ev X σ H a (.bl c)) (h2 : c = false → Ev X σ H (.BoolOp .Or (b :: rest) pos) (.bl d)) : Ev X σ H (.BoolOp .Or (a :: b :: rest) pos) (.bl (c || d)) :=
  fun H1 e1 Q q => WE.of (pe_or WE.pe WE.pe) (h H1 e1 _ fun v H2 e2 hv => by
    cases hv
    refine ⟨c, rfl, ?_⟩
    cases c with
    | false => exact h2 rfl H2 (e1.trans e2) Q fun v H3 e3 hv => q v H3 (e2.trans e3) hv
    | true => exact q _ H2 e2 (.bl true))
theorem EvW.t {c : Bool} (h : EvW X σ H e c) : EvT X σ H e c := fun H1 e1 Q q => WT.of WW.pw.pt (h H1 e1 Q q)
theorem evw_and1 {c : Bool} (h : EvT X σ H a c) : EvW X σ H (.BoolOp .And [a] pos) c := fun H1 e1 Q q => WW.of (pw_and1 WT.pt) (h H1 e1 Q q)
theorem evw_or1 {c : Bool} (h : EvT X σ H a c) : EvW X σ H (.BoolOp .Or [a] pos) c := fun H1 e1 Q q => WW.of (pw_or1 WT.pt) (h H1 e1 Q q)
theorem evw_and {rest : List Expr} {c d : Bool} (h : EvT X σ H a c) (h2 : c = true → EvW X σ H (.BoolOp .And (b :: rest) pos) d) : EvW X σ H (.BoolOp .And (a :: b :: rest) pos) (c && d) :=
  fun H1 e1 Q q => WW.of (pw_and WT.pt WW.pw) (h H1 e1 _ fun H2 e2 => by
    cases c with
    | true => exact iteT (h2 rfl H2 (e1.trans e2) Q fun H3 e3 => q H3 (e2.trans e3))
    | false => exact iteF (q H2 e2))
theorem evw_or {rest : List Expr} {c d : Bool} (h : EvT X σ H a c) (h2 : c = false → EvW X σ H (.BoolOp .Or (b :: rest) pos) d) : EvW X σ H (.BoolOp .Or (a :: b :: rest) pos) (c || d) :=
  fun H1 e1 Q q => WW.of (pw_or WT.pt WW.pw) (h H1 e1 _ fun H2 e2 => by
    cases c with
    | true => exact iteT (q H2 e2)
    | false => exact iteF (h2 rfl H2 (e1.trans e2) Q fun H3 e3 => q H3 (e2.trans e3)))
theorem ev_ifExp {t : Expr} {c : Bool} {d : D} (h : EvT X σ H t c) (h1 : c = true → Ev X σ H a d) (h2 : c = false → Ev X σ H b d) : Ev X σ H (.IfExp t a b pos) d :=
  fun H1 e1 Q q => WE.of (pe_ifExp WT.pt WE.pe WE.pe) (h H1 e1 _ fun H2 e2 => by
    cases c with
    | true => exact iteT (h1 rfl H2 (e1.trans e2) Q fun v H3 e3 hv => q v H3 (e2.trans e3) hv)
    | false => exact iteF (h2 rfl H2 (e1.trans e2) Q fun v H3 e3 hv => q v H3 (e2.trans e3) hv))

/-! ### arguments, displays, calls -/
def noStar : Expr → Bool
  | .Starred _ _ => false
  | _ => true
theorem star_cons {e : Expr} {es : List Expr} {env : Env} (h : noStar e = true) : starEach (e :: es) env = (false, eval e env) :: starEach es env := by
  cases e <;> first | rfl | cases h
theorem star_none : ∀ {es : List Expr} {env : Env} {pos : Pos}, es.all noStar = true → (backTo pos (starEach es env)).any (·.1) = false
  | [], _, _, _ => rfl
  | e :: es, env, pos, h => by
    obtain ⟨h1, h2⟩ := Bool.and_eq_true_iff.mp (show (noStar e && es.all noStar) = true from h)
    rw [star_cons h1]
    exact star_none (es := es) h2
theorem eva_nil : EvA X σ H [] [] := fun H1 _ Q q => WA.of pa_nil (q [] H1 (Ext.refl _) .nil)
theorem eva_cons {es : List Expr} {d : D} {ds : List D} (h : Ev X σ H e d) (t : EvA X σ H es ds) (hs : noStar e = true := by rfl) : EvA X σ H (e :: es) (d :: ds) :=
  fun H1 e1 Q q => WA.of (pa_cons WE.pe WA.pa (star_cons hs)) (h H1 e1 _ fun v H2 e2 hv => t H2 (e1.trans e2) _ fun vs H3 e3 hvs => q (v :: vs) H3 (e2.trans e3) (.cons (hv.mono e3) hvs))
theorem EvA.mono {H' : Hp} {es : List Expr} {ds : List D} (x : Ext H H') (h : EvA X σ H es ds) : EvA X σ H' es ds := fun H1 e1 => h H1 (x.trans e1)
theorem small {n : Nat} (h : n ≤ 100000) : n ≤ sizeLine := Nat.le_trans h (by decide)
theorem ev_tup {es : List Expr} {ds : List D} {k : Nat} (h : EvA X σ H es ds) (hl : ds.length ≤ 100000 := by first | decide | assumption) : Ev X σ H (.Tuple es k pos) (.tup ds) :=
  fun H1 e1 Q q => WE.of (pe_tup WA.pa) (h H1 e1 _ fun vs H2 e2 hvs => ⟨small (by rw [hvs.length]; exact hl), fun p hp => q _ _ (e2.trans (Ext.new hp)) (.tup (.of upd_same) (hvs.mono (Ext.new hp)))⟩)
theorem ev_lst {es : List Expr} {ds : List D} (h : EvA X σ H es ds) (hl : ds.length ≤ 100000 := by first | decide | assumption) : Ev X σ H (.List es pos) (.lst ds) :=
  fun H1 e1 Q q => WE.of (pe_lst WA.pa) (h H1 e1 _ fun vs H2 e2 hvs => ⟨small (by rw [hvs.length]; exact hl), fun p hp => q _ _ (e2.trans (Ext.new hp)) (.lst upd_same (hvs.mono (Ext.new hp)))⟩)
theorem ev_callB {x : Str} {id : String} {r : List V → Hp → VK → Prop} {es : List Expr} {ds : List D} {d : D} {p : Pos} (hc : CallR X (.builtin id) r) (hr : RCD X.K r ds d) (hm : X.mg x = none) (hv : bootBuiltins x = some (.builtin id)) (ha : EvA X σ H (e :: es) ds) (hg : Gl X x := by rfl) (hs : (e :: es).all noStar = true := by rfl) (hn : x ≠ "__name__" := by decide) (hdb : (x == ("__debug__" : Str)) = false := by decide) :
    Ev X σ H (.Call (.Name x p) (e :: es) [] pos) d :=
  fun H1 e1 Q q => WE.of (pe_callB hc hg hm hv WA.pa hn hdb (star_cons (Bool.and_eq_true_iff.mp hs).1) (star_none (Bool.and_eq_true_iff.mp hs).2)) (ha H1 e1 _ fun vs H2 e2 hvs => hr vs H2 hvs Q fun v H3 e3 hv => q v H3 (e2.trans e3) hv)
theorem ev_callTy {x : Str} {T : String} {r : List V → Hp → VK → Prop} {es : List Expr} {ds : List D} {d : D} {p : Pos} (hc : CallR X (.type T) r) (hr : RCD X.K r ds d) (hm : X.mg x = none) (hv : bootBuiltins x = some (.type T)) (ha : EvA X σ H (e :: es) ds) (hg : Gl X x := by rfl) (hs : (e :: es).all noStar = true := by rfl) (hn : x ≠ "__name__" := by decide) (hdb : (x == ("__debug__" : Str)) = false := by decide) :
    Ev X σ H (.Call (.Name x p) (e :: es) [] pos) d :=
  fun H1 e1 Q q => WE.of (pe_callTy hc hg hm hv WA.pa hn hdb (star_cons (Bool.and_eq_true_iff.mp hs).1) (star_none (Bool.and_eq_true_iff.mp hs).2)) (ha H1 e1 _ fun vs H2 e2 hvs => hr vs H2 hvs Q fun v H3 e3 hv => q v H3 (e2.trans e3) hv)
end

/-- the promise of a def that changes nothing: from data to data -/
def spD (K : PySem.W.Frag) (Rl : List D → D → Prop) : Sp := fun vs H Q _ => ∃ ds d, IsAll K H vs ds ∧ Rl ds d ∧ ∀ v H', Ext H H' → Is K H' v d → Q v H'
/-- the def g of the module keeps sp, by at most k levels -/
structure Kp (P : Program) (w : World) (K : PySem.W.Frag) (mg : Str → Option Value) (base : Heap) (g : Str) (ps : List Str) (dvs : List V) (k : Nat) (sp : Sp) : Prop where
  ok : ∃ (fd : FuncData) (ds : List Value), FnOk P w K mg base CX0 k (He.ga K g) fd ps sp ∧ Binds K fd ps ds ∧ Vals dvs ds
  kp : PySem.W.keepIn K (.ref (He.ga K g)) = true
  at_ : mg g = some (.ref (He.ga K g))
section
variable {X : Cx} {e a b : Expr} {σ : L2.St} {H : Hp} {pos p : Pos}
/-- a call, at its promise -/
theorem we_call {g : Str} {ps : List Str} {dvs : List V} {k : Nat} {sp : Sp} {es : List Expr} {Q : VK} (F : Kp X.prog X.w X.K X.mg X.base g ps dvs k sp) (hr : Room k X.A) (h : WA X (e :: es) σ H fun vs H1 => sp (vs ++ dvs) H1 Q E0) (hg : Gl X g := by rfl) (hs : (e :: es).all noStar = true := by rfl) (hdb : (g == ("__debug__" : Str)) = false := by decide) :
    WE X (.Call (.Name g p) (e :: es) [] pos) σ H Q := by
  obtain ⟨fd, ds, F1, B1, V1⟩ := F.ok
  exact WE.of (pe_call F1 hr hg F.at_ F.kp B1 V1 pass0 WA.pa hdb (star_cons (Bool.and_eq_true_iff.mp hs).1) (star_none (Bool.and_eq_true_iff.mp hs).2)) h
theorem ev_call {g : Str} {ps : List Str} {k : Nat} {Rl : List D → D → Prop} {es : List Expr} {ds : List D} {d : D} (F : Kp X.prog X.w X.K X.mg X.base g ps [] k (spD X.K Rl)) (hr : Room k X.A) (ha : EvA X σ H (e :: es) ds) (h : Rl ds d) (hg : Gl X g := by rfl) (hs : (e :: es).all noStar = true := by rfl) (hdb : (g == ("__debug__" : Str)) = false := by decide) :
    Ev X σ H (.Call (.Name g p) (e :: es) [] pos) d :=
  fun H1 e1 Q q => we_call F hr (ha H1 e1 _ fun vs H2 e2 hvs => ⟨ds, d, by rw [List.append_nil]; exact hvs, h, fun v H3 e3 hv => q v H3 (e2.trans e3) hv⟩) hg hs hdb

/-! ### statements -/
variable {Dn : Ends}
theorem ws_ret {d : D} (h : Ev X σ H e d) (k : ∀ v H1, Ext H H1 → Is X.K H1 v d → Dn.rt v H1) : WS X (.Return (some e) pos) Dn σ H := WS.of (ps_ret WE.pe) (h H (Ext.refl _) _ k)
theorem ws_set {i : Nat} {x : Str} {d : D} {pos' : Pos} (hN : X.N.Nodup) (h : Ev X σ H e d) (k : ∀ v H1, Ext H H1 → Is X.K H1 v d → Dn.nx (σ.set i (some v)) H1) (hi : X.N[i]? = some x := by rfl) (hx : Loc X.env.scope x := by first | exact .inl rfl | exact .inr rfl)
    (hs : swapsWith e (some (.Name x pos')) pos.line X.env = pure false := by rfl) (hf : X.fn x = true ∨ X.env.scope.names.lookup x = some .local := by first | exact .inl rfl | exact .inr rfl) : WS X (.Assign [.Name x pos'] e pos) Dn σ H :=
  WS.of (ps_set hN hi hx WE.pe hs hf) (h H (Ext.refl _) _ k)
theorem ws_if {c : Bool} {s1 s2 : List Stmt} (h : EvT X σ H e c) (k1 : c = true → ∀ H1, Ext H H1 → WSs X s1 Dn σ H1) (k2 : c = false → ∀ H1, Ext H H1 → WSs X s2 Dn σ H1) : WS X (.If e s1 s2 pos) Dn σ H :=
  WS.of (ps_if WT.pt WSs.pss WSs.pss) (h H (Ext.refl _) _ fun H2 e2 => by
    cases c with
    | true => exact iteT (k1 rfl H2 e2)
    | false => exact iteF (k2 rfl H2 e2))
/-- an if that is not taken, without else -/
theorem ws_skip {s1 : List Stmt} (h : EvT X σ H e false) (k : ∀ H1, Ext H H1 → Dn.nx σ H1) : WS X (.If e s1 [] pos) Dn σ H :=
  WS.of (ps_if WT.pt (pss_never) pss_nil) (h H (Ext.refl _) _ fun H2 e2 => iteF (k H2 e2))
theorem ws_expr {d : D} (h : Ev X σ H e d) (k : ∀ H1, Ext H H1 → Dn.nx σ H1) (hs : swapsWith e none pos.line X.env = pure false := by rfl) : WS X (.Expr e pos) Dn σ H := WS.of (ps_expr WE.pe hs) (h H (Ext.refl _) _ fun _ H1 e1 _ => k H1 e1)
end
end Wb
/-! Loops, comprehensions over data. -/
namespace Wb
open PySem PySem.Spec L2

/-! ### data that no list is part of -/
mutual
def noLst : D → Bool
  | .tup ds => noLsts ds
  | .lst _ => false
  | .dct _ => true
  | .man _ => false
  | .non => true
  | .bl _ => true
  | .int _ => true
  | .str _ => true
  | .rng _ _ => true
  | .ty _ => true
  | .obj _ => true
def noLsts : List D → Bool
  | [] => true
  | d :: ds => noLst d && noLsts ds
end
/-- all but the lists stays -/
def ExtN (H H' : Hp) : Prop := ∀ a o, H a = some o → (∀ xs, o ≠ .lst xs) → H' a = some o
theorem Ext.n {H H' : Hp} (e : Ext H H') : ExtN H H' := fun a o h _ => e a o h
theorem ExtN.upd {H H' : Hp} (e : ExtN H H') {l : Addr} {xs : List V} {o : HO} (h : H l = some (.lst xs)) : ExtN H (upd H' l o) := fun a u ha hn => by
  rw [upd_ne (ne_of ha h (hn xs))]; exact e a u ha hn
theorem ExtN.new {H H' : Hp} (e : ExtN H H') {l : Addr} {o : HO} (h : H l = none) : ExtN H (L2.upd H' l o) := fun a u ha hn => by
  rw [upd_ne (ne_of_none ha h)]; exact e a u ha hn
theorem sqT_keep {K : PySem.W.Frag} {H H' : Hp} {a : Addr} {xs : List V} (e : ExtN H H') (h : SqT K H a xs) : SqT K H' a xs := by
  rcases h with (h | ⟨o, h⟩) | h
  · exact .inl (.inl (e _ _ h fun _ q => nomatch q))
  · exact .inl (.inr ⟨o, e _ _ h fun _ q => nomatch q⟩)
  · exact .inr h
theorem noLst_tup {ds : List D} (h : noLst (.tup ds) = true) : noLsts ds = true := by rw [noLst] at h; exact h
theorem noLst_lst {ds : List D} (h : noLst (.lst ds) = true) : False := by rw [noLst] at h; cases h
theorem noLst_man {m : Mn} (h : noLst (.man m) = true) : False := by rw [noLst] at h; cases h
theorem noLsts_cons {d : D} {ds : List D} (h : noLsts (d :: ds) = true) : noLst d = true ∧ noLsts ds = true := by rw [noLsts] at h; exact Bool.and_eq_true_iff.mp h
section
variable {K : PySem.W.Frag} {H H' : Hp}
mutual
theorem Is.keep (e : ExtN H H') : ∀ {v : V} {d : D}, Is K H v d → noLst d = true → Is K H' v d
  | _, _, .non, _ => .non
  | _, _, .bl b, _ => .bl b
  | _, _, .int i, _ => .int i
  | _, _, .str x, _ => .str x
  | _, _, .tup h t, n => .tup (sqT_keep e h) (IsAll.keep e t (noLst_tup n))
  | _, _, .dct h a b c, _ => .dct (e _ _ h fun _ q => nomatch q) a b c
  | _, _, .rng h, _ => .rng (e _ _ h fun _ q => nomatch q)
  | _, _, .ty n, _ => .ty n
  | _, _, .obj a, _ => .obj a
  | _, _, .lst _ _, n => (noLst_lst n).elim
  | _, _, .man _ _ _ _ _, n => (noLst_man n).elim
theorem IsAll.keep (e : ExtN H H') : ∀ {vs : List V} {ds : List D}, IsAll K H vs ds → noLsts ds = true → IsAll K H' vs ds
  | _, _, .nil, _ => .nil
  | _, _, .cons h t, n => .cons (Is.keep e h (noLsts_cons n).1) (IsAll.keep e t (noLsts_cons n).2)
end
end
theorem noLsts_all : ∀ {ds : List D}, (∀ d ∈ ds, noLst d = true) → noLsts ds = true
  | [], _ => rfl
  | d :: ds, h => by rw [noLsts]; exact Bool.and_eq_true_iff.mpr ⟨h d (.head _), noLsts_all fun e m => h e (.tail _ m)⟩
theorem noLsts_append : ∀ {ds es : List D}, noLsts ds = true → noLsts es = true → noLsts (ds ++ es) = true
  | [], _, _, h => h
  | d :: ds, es, h, h2 => by
    show noLsts (d :: (ds ++ es)) = true
    rw [noLsts]; exact Bool.and_eq_true_iff.mpr ⟨(noLsts_cons h).1, noLsts_append (noLsts_cons h).2 h2⟩

/-! ### iterators that give out data -/
structure Yl (K : PySem.W.Frag) (J : It) (B : Hp) (xs : List D) : Prop where
  go : ∀ i H', Ext B H' → i < xs.length → J.go i H'
  yld : ∀ i H' v H'' d, Ext B H' → xs[i]? = some d → J.yld i H' v H'' → Ext H' H'' ∧ Is K H'' v d
  stop : ∀ H', Ext B H' → J.stop xs.length H'
theorem Yl.mono {K : PySem.W.Frag} {J : It} {B B' : Hp} {xs : List D} (y : Yl K J B xs) (e : Ext B B') : Yl K J B' xs :=
  ⟨fun i H' q => y.go i H' (e.trans q), fun i H' v H'' d q => y.yld i H' v H'' d (e.trans q), fun H' q => y.stop H' (e.trans q)⟩
section
variable {K : PySem.W.Frag} {B : Hp} {a : Addr} {xs : List D}
theorem yl_list (h : Is K B (.ref a) (.lst xs)) : Yl K (Itl K a) B xs := by
  cases h with
  | @lst _ vs _ hs ha =>
    refine ⟨fun i H' e hi => ?_, fun i H' v H'' d e hd y => ?_, fun H' e => ⟨vs, sqL_mono e hs, Nat.le_of_eq ha.length⟩⟩
    · obtain ⟨v, hv, _⟩ := ha.get (List.getElem?_eq_getElem hi)
      exact ⟨vs, v, sqL_mono e hs, hv⟩
    · obtain ⟨rfl, y⟩ := y
      obtain ⟨d', h1, h2⟩ := ha.get' (y vs (sqL_mono e hs))
      rw [hd] at h1; cases h1
      exact ⟨Ext.refl _, h2.mono e⟩
theorem yl_tup (h : Is K B (.ref a) (.tup xs)) : Yl K (Itt K a) B xs := by
  cases h with
  | @tup _ vs _ hs ha =>
    refine ⟨fun i H' e hi => ?_, fun i H' v H'' d e hd y => ?_, fun H' e => ⟨vs, sqT_mono e hs, Nat.le_of_eq ha.length⟩⟩
    · obtain ⟨v, hv, _⟩ := ha.get (List.getElem?_eq_getElem hi)
      exact ⟨vs, v, sqT_mono e hs, hv⟩
    · obtain ⟨rfl, y⟩ := y
      obtain ⟨d', h1, h2⟩ := ha.get' (y vs (sqT_mono e hs))
      rw [hd] at h1; cases h1
      exact ⟨Ext.refl _, h2.mono e⟩
theorem yl_range {lo : Int} {n : Nat} : Yl K (Itr lo n) B ((List.range n).map fun i => .int (lo + (i : Nat))) := by
  refine ⟨fun i H' e hi => ?_, fun i H' v H'' d e hd y => ?_, fun H' e => ?_⟩
  · simpa [Itr] using hi
  · obtain ⟨rfl, rfl⟩ := y
    rw [List.getElem?_map] at hd
    cases q : (List.range n)[i]? with
    | none => rw [q] at hd; cases hd
    | some j =>
      rw [q] at hd
      have e1 : j = i := by
        obtain ⟨h1, h2⟩ := List.getElem?_eq_some_iff.mp q
        simpa using h2.symm
      subst e1
      cases hd
      exact ⟨Ext.refl _, .int _⟩
  · simp [Itr]
def enumD (xs : List D) : List D := xs.zipIdx.map fun p => .tup [.int (p.2 : Nat), p.1]
theorem enumD_get {i : Nat} {d : D} : (enumD xs)[i]? = some d → ∃ x, xs[i]? = some x ∧ d = .tup [.int (i : Nat), x] := by
  intro h
  unfold enumD at h
  rw [List.getElem?_map, List.getElem?_zipIdx] at h
  cases q : xs[i]? with
  | none => rw [q] at h; cases h
  | some x => rw [q] at h; cases h; exact ⟨x, rfl, by simp⟩
theorem enumD_length : (enumD xs).length = xs.length := by simp [enumD]
theorem yl_enum (h : Is K B (.ref a) (.lst xs)) : Yl K (Ite K a) B (enumD xs) := by
  cases h with
  | @lst _ vs _ hs ha =>
    refine ⟨fun i H' e hi => ?_, fun i H' v H'' d e hd y => ?_, fun H' e => ⟨vs, sqL_mono e hs, by rw [ha.length, enumD_length]; exact Nat.le_refl _⟩⟩
    · rw [enumD_length] at hi
      obtain ⟨v, hv, _⟩ := ha.get (List.getElem?_eq_getElem hi)
      exact ⟨vs, v, sqL_mono e hs, hv⟩
    · obtain ⟨T, x, rfl, hT, rfl, y⟩ := y
      obtain ⟨x', hx', rfl⟩ := enumD_get hd
      obtain ⟨d', h1, h2⟩ := ha.get' (y vs (sqL_mono e hs))
      rw [hx'] at h1; cases h1
      exact ⟨Ext.new hT, .tup (.of upd_same) (.cons (.int _) (.cons (h2.mono (e.trans (Ext.new hT))) .nil))⟩
theorem yl_rev (h : Is K B (.ref a) (.lst xs)) : Yl K (Itv K a xs.length) B xs.reverse := by
  cases h with
  | @lst _ vs _ hs ha =>
    refine ⟨fun i H' e hi => ?_, fun i H' v H'' d e hd y => ?_, fun H' e => by simp [Itv]⟩
    · rw [List.length_reverse] at hi
      obtain ⟨v, hv, _⟩ := ha.get (List.getElem?_eq_getElem (show xs.length - 1 - i < xs.length by omega))
      exact ⟨hi, vs, v, sqL_mono e hs, hv⟩
    · obtain ⟨rfl, y⟩ := y
      have hi : i < xs.length := by have := (List.getElem?_eq_some_iff.mp hd).1; simpa using this
      obtain ⟨d', h1, h2⟩ := ha.get' (y vs (sqL_mono e hs))
      rw [List.getElem?_reverse hi, h1] at hd; cases hd
      exact ⟨Ext.refl _, h2.mono e⟩
end

section
variable {X : Cx} {e a b iter tg elt : Expr} {σ : L2.St} {H B : Hp} {pos p : Pos} {xs : List D}
structure WI (X : Cx) (tg iter : Expr) (σ : L2.St) (H : Hp) (R : It → Hp → Prop) : Prop where
  run : ∀ pins s, Inv X pins σ H s → wpAny (model X.prog X.w) X.A (eval iter X.env) (fun v s1 => wpAny (model X.prog X.w) X.A (pyIter v) (PIE X pins σ tg R) X.xe s1) X.xe s
theorem WI.pi : PI X tg iter (WI X tg iter) := ⟨fun pins s σ H R I h => h.run pins s I⟩
theorem WI.of {t : TI} {R : It → Hp → Prop} (h : PI X tg iter t) (q : t σ H R) : WI X tg iter σ H R := ⟨fun pins s I => h.run pins s σ H R I q⟩
/-- iter gives out xs, as long as B stands -/
def EvIB (X : Cx) (σ : L2.St) (H B : Hp) (tg iter : Expr) (xs : List D) : Prop := ∀ H1, Ext H H1 → ∀ R : It → Hp → Prop, (∀ J H2, Ext H1 H2 → Yl X.K J B xs → R J H2) → WI X tg iter σ H1 R
/-- .. as long as all stands that stands where it begins -/
def EvI (X : Cx) (σ : L2.St) (H : Hp) (tg iter : Expr) (xs : List D) : Prop := ∀ H1, Ext H H1 → ∀ R : It → Hp → Prop, (∀ J H2, Ext H1 H2 → Yl X.K J H2 xs → R J H2) → WI X tg iter σ H1 R
theorem EvIB.i (h : EvIB X σ H B tg iter xs) (e : Ext B H) : EvI X σ H tg iter xs := fun H1 e1 R q => h H1 e1 R fun J H2 e2 y => q J H2 e2 (y.mono (e.trans (e1.trans e2)))
/-- a value that is data of B -/
def EvB (X : Cx) (σ : L2.St) (H B : Hp) (e : Expr) (d : D) : Prop := ∀ H1, Ext H H1 → ∀ Q : VK, (∀ v H2, Ext H1 H2 → Is X.K B v d → Q v H2) → WE X e σ H1 Q
theorem EvB.ev {d : D} (h : EvB X σ H B e d) (x : Ext B H) : Ev X σ H e d := fun H1 e1 Q q => h H1 e1 Q fun v H2 e2 hv => q v H2 e2 (hv.mono (x.trans (e1.trans e2)))
theorem evb_var {i : Nat} {x : Str} {v : V} {d : D} (hs : σ[i]? = some (some v)) (h : Is X.K B v d) (hN : X.N[i]? = some x := by rfl) (hv : Vis X.env.scope x := by first | exact Or.inl rfl | exact Or.inr (Or.inl rfl) | exact Or.inr (Or.inr rfl))
    (hd : (x == ("__debug__" : Str)) = false := by decide) (hcd : (x == ("__classdict__" : Str)) = false := by decide) : EvB X σ H B (.Name x pos) d :=
  fun H1 e1 Q q => WE.of (pe_var hN hv hd hcd) ⟨v, hs, q v H1 (Ext.refl _) h⟩
theorem evi_list (h : EvB X σ H B iter (.lst xs)) (x : Ext B H) : EvIB X σ H B tg iter xs := fun H1 e1 R q => WI.of (pi_list WE.pe) (h H1 e1 _ fun v H2 e2 hv => by
  have hv2 := hv.mono (x.trans (e1.trans e2))
  cases hv2 with
  | @lst a vs _ hs ha => exact ⟨a, rfl, ⟨vs, .of hs⟩, q _ H2 e2 (yl_list hv)⟩)
theorem evi_tup (h : EvB X σ H B iter (.tup xs)) (x : Ext B H) : EvIB X σ H B tg iter xs := fun H1 e1 R q => WI.of (pi_tup WE.pe) (h H1 e1 _ fun v H2 e2 hv => by
  have hv2 := hv.mono (x.trans (e1.trans e2))
  cases hv2 with
  | @tup a vs _ hs ha => exact ⟨a, rfl, ⟨vs, hs⟩, q _ H2 e2 (yl_tup hv)⟩)
theorem evi_listF (h : Ev X σ H iter (.lst xs)) : EvI X σ H tg iter xs := fun H1 e1 R q => WI.of (pi_list WE.pe) (h H1 e1 _ fun v H2 e2 hv => by
  have hv2 := hv
  cases hv with
  | @lst a vs _ hs ha => exact ⟨a, rfl, ⟨vs, .of hs⟩, q _ H2 e2 (yl_list hv2)⟩)
theorem evi_tupF (h : Ev X σ H iter (.tup xs)) : EvI X σ H tg iter xs := fun H1 e1 R q => WI.of (pi_tup WE.pe) (h H1 e1 _ fun v H2 e2 hv => by
  have hv2 := hv
  cases hv with
  | @tup a vs _ hs ha => exact ⟨a, rfl, ⟨vs, hs⟩, q _ H2 e2 (yl_tup hv2)⟩)
theorem evi_range {n : Nat} (hm : X.mg "range" = none) (h : EvA X σ H [a] [.int (n : Nat)]) (hn : n ≤ 1000000) (hg : Gl X "range" := by rfl) (hs : noStar a = true := by rfl) : EvIB X σ H B tg (.Call (.Name "range" p) [a] [] pos) ((List.range n).map fun i => .int (i : Nat)) :=
  fun H1 e1 R q => WI.of (pi_range1 hg hm WA.pa (by rw [star_cons hs]; rfl)) (h H1 e1 _ fun vs H2 e2 hvs => by
    cases hvs with
    | cons h1 t =>
      cases h1; cases t
      refine ⟨n, rfl, by omega, by omega, ?_⟩
      have y : Yl X.K (Itr 0 n) B ((List.range n).map fun i => .int (0 + (i : Nat))) := yl_range
      have e0 : ((List.range n).map fun i => D.int (0 + (i : Nat))) = (List.range n).map fun i => D.int (i : Nat) := by simp
      rw [e0] at y
      exact q _ H2 e2 y)
theorem evi_rev (hm : X.mg "reversed" = none) (h : EvB X σ H B a (.lst xs)) (x : Ext B H) (hg : Gl X "reversed" := by rfl) (hs : noStar a = true := by rfl) : EvIB X σ H B tg (.Call (.Name "reversed" p) [a] [] pos) xs.reverse :=
  fun H1 e1 R q => WI.of (pi_reversed hg hm (pa_cons WE.pe pa_nil (star_cons hs)) (by rw [star_cons hs]; rfl)) (h H1 e1 _ fun v H2 e2 hv => by
    have hv2 := hv.mono (x.trans (e1.trans e2))
    have y := yl_rev (K := X.K) (a := (match v with | .ref a => a | _ => 0)) (B := B) (xs := xs)
    cases hv2 with
    | @lst a vs _ hs ha =>
      refine ⟨a, vs, rfl, .of hs, ?_⟩
      rw [ha.length]
      exact q _ H2 e2 (y hv))
theorem evi_enum {elts : List Expr} {kk : Nat} {tpos : Pos} (hm : X.mg "enumerate" = none) (h : EvB X σ H B a (.lst xs)) (x : Ext B H) (hg : Gl X "enumerate" := by rfl) (hs : noStar a = true := by rfl) : EvIB X σ H B (.Tuple elts kk tpos) (.Call (.Name "enumerate" p) [a] [] pos) (enumD xs) :=
  fun H1 e1 R q => WI.of (pi_enum hg hm (pa_cons WE.pe pa_nil (star_cons hs)) (by rw [star_cons hs]; rfl)) (h H1 e1 _ fun v H2 e2 hv => by
    have hv2 := hv.mono (x.trans (e1.trans e2))
    cases hv2 with
    | @lst a vs _ hs ha => exact ⟨a, vs, rfl, .of hs, q _ H2 e2 (yl_enum hv)⟩)
end
end Wb
/-! Comprehensions, loops; operators and built-ins over data. -/
namespace Wb
open PySem PySem.Spec L2
section
variable {X : Cx} {e a b iter tg elt : Expr} {σ : L2.St} {H B : Hp} {pos p : Pos} {xs : List D} {Dn : Ends}
/-- a comprehension's block -/
abbrev Bk (X : Cx) (scope : Scope) (s : Shared) (H : Hp) (C : Addr) (cl : List (Str × Addr)) (fp : List Addr) : Cx := X.blk s H scope (compEnvC scope cl C X.env) fp
theorem lc_run {K : PySem.W.Frag} {J : It} {Hb : Hp} {g : TG} {tt : TT} {te : TE} {vs : List Nat} {Dl : Addr} {Q : VK} (y : Yl K J Hb xs) (Pv : Nat → Hp → Prop) (hB : ∀ i H, Pv i H → Ext Hb H) (h0 : Pv 0 (upd Hb Dl (.lst [])))
    (hs : ∀ i d v H H', xs[i]? = some d → Pv i H → Ext H H' → Is K H' v d → g v (wipe σ vs) H' fun σ2 H2 => wipe σ2 vs = wipe σ vs ∧ tt σ2 H2 fun b H3 =>
      if b = true then te σ2 H3 fun z H4 => ∃ acc, H4 Dl = some (.lst acc) ∧ acc.length < sizeLine ∧ Pv (i + 1) (upd H4 Dl (.lst (acc ++ [z]))) else Pv (i + 1) H3) (hd : ∀ H, Pv xs.length H → Q (.ref Dl) H) :
    ∃ W : Nat → Nat → Hp → Prop, (∃ m, W 0 m (upd Hb Dl (.lst []))) ∧ ∀ i m H, W i m H →
      (J.stop i H ∧ Q (.ref Dl) H) ∨ (J.go i H ∧ ∃ Nx : Hp → Prop, (∀ H', Nx H' → ∃ m', m' < m ∧ W (i + 1) m' H') ∧ ∀ x H', J.yld i H x H' → g x (wipe σ vs) H' fun σ2 H2 => wipe σ2 vs = wipe σ vs ∧ tt σ2 H2 fun b H3 =>
        if b = true then te σ2 H3 fun z H4 => ∃ acc, H4 Dl = some (.lst acc) ∧ acc.length < sizeLine ∧ Nx (upd H4 Dl (.lst (acc ++ [z]))) else Nx H3) := by
  refine ⟨fun i m H => m = xs.length - i ∧ i ≤ xs.length ∧ Pv i H, ⟨xs.length, by simp, Nat.zero_le _, h0⟩, ?_⟩
  rintro i m H ⟨rfl, hi, p⟩
  by_cases hlt : i < xs.length
  · refine .inr ⟨y.go i H (hB i H p) hlt, Pv (i + 1), fun H' p' => ⟨xs.length - (i + 1), by omega, rfl, hlt, p'⟩, fun x H' yy => ?_⟩
    have hd' : xs[i]? = some xs[i] := List.getElem?_eq_getElem hlt
    obtain ⟨e1, v1⟩ := y.yld i H x H' xs[i] (hB i H p) hd' yy
    exact hs i xs[i] x H H' hd' p e1 v1
  · have e : i = xs.length := by omega
    subst e
    exact .inl ⟨y.stop H (hB _ H p), hd H p⟩
/-- the element, the test in whatever block -/
def bkE (X : Cx) (scope : Scope) (elt : Expr) : TE := fun σ H Q => ∀ s H' C cl fp, WE (Bk X scope s H' C cl fp) elt σ H Q
def bkT (X : Cx) (scope : Scope) (test : Expr) : TT := fun σ H Q => ∀ s H' C cl fp, WT (Bk X scope s H' C cl fp) test σ H Q
def GMono (g : TG) : Prop := ∀ v σ H (P Q : L2.St → Hp → Prop), (∀ σ H, P σ H → Q σ H) → g v σ H P → g v σ H Q
theorem gm_name {i : Nat} : GMono (gName i) := fun _ σ H _ _ h q => h _ H q
def GsMono (g : TGs) : Prop := ∀ vs σ H (P Q : L2.St → Hp → Prop), (∀ σ H, P σ H → Q σ H) → g vs σ H P → g vs σ H Q
theorem gm_nil : GsMono gNil := fun _ σ H _ _ h q => ⟨q.1, h _ _ q.2⟩
theorem gm_cons {g : TG} {gs : TGs} (h1 : GMono g) (h2 : GsMono gs) : GsMono (gCons g gs) := fun vs σ H P Q h ⟨v, r, e, q⟩ => ⟨v, r, e, h1 v σ H _ _ (fun σ' H' q' => h2 r σ' H' P Q h q') q⟩
theorem gm_tup {K : PySem.W.Frag} {n : Nat} {gs : TGs} (h : GsMono gs) : GMono (gTup K n gs) := fun v σ H P Q hp ⟨a, xs, e, q1, q2, q⟩ => ⟨a, xs, e, q1, q2, h xs σ H P Q hp q⟩
/-- the comprehension, whatever tests (ifs, tt); keep: what was made stays data while the list grows -/
theorem ev_lcG {scope : Scope} {own : List (Str × Nat)} {g : TG} {ifs : List Expr} {tt : TT} (q : D → Bool) (f : D → D) (hc : X.calm = true) (hN : X.N.Nodup) (ok : BlkOk X.N X.env.scope scope own) (hi : EvI X σ H tg iter xs) (hz : xs.length ≤ 100000)
    (hg : ∀ s H C cl fp, PG (Bk X scope s H C cl fp) tg g) (htt : ∀ s H C cl fp, PTs (Bk X scope s H C cl fp) ifs tt) (hm : GMono g)
    (hs : ∀ d ∈ xs, ∀ v H1, Ext H H1 → Is X.K H1 v d → g v (wipe σ (own.map (·.2))) H1 fun σ2 H2 => H2 = H1 ∧ wipe σ2 (own.map (·.2)) = wipe σ (own.map (·.2)) ∧
      (∀ R : Bool → Hp → Prop, (∀ H3, Ext H1 H3 → R (q d) H3) → tt σ2 H1 R) ∧ (q d = true → ∀ s H' C cl fp, Ev (Bk X scope s H' C cl fp) σ2 H1 elt (f d)))
    (hn : ∀ d ∈ xs, q d = true → noLst (f d) = true) (hf : ∀ x, foldedSetIterable iter X.env x = pure x) :
    Ev X σ H (.ListComp elt [⟨tg, iter, ifs, 0⟩] scope pos) (.lst ((xs.filter q).map f)) := fun H1 e1 Q k => by
  refine WE.of (pe_lc hc hN WI.pi ok hg htt (te := bkE X scope elt) (fun s H C cl fp => ⟨fun pins s' σ H Q I h => (h _ _ _ _ _).run pins s' I⟩) hf) ?_
  refine hi H1 e1 _ fun J Hb e2 y Dl hD => lc_run (g := g) (tt := tt) (te := bkE X scope elt) (vs := own.map (·.2)) (σ := σ) (Q := Q) y (fun i H' => Ext Hb H' ∧ ∃ acc, H' Dl = some (.lst acc) ∧ IsAll X.K H' acc (((xs.take i).filter q).map f)) (fun i H' p => p.1) ⟨Ext.new hD, [], upd_same, by simp; exact .nil⟩ ?_ ?_
  · intro i d v H3 H4 hd ⟨p1, acc, p2, p3⟩ e3 hv
    have hmem : d ∈ xs := List.mem_of_getElem? hd
    have e4 : Ext Hb H4 := p1.trans e3
    have htk : xs.take (i + 1) = xs.take i ++ [d] := by
      obtain ⟨hl, he⟩ := List.getElem?_eq_some_iff.mp hd
      rw [List.take_succ_eq_append_getElem hl, he]
    refine hm v _ H4 _ _ (fun σ2 H2 ⟨q1, q2, q3, q4⟩ => ?_) (hs d hmem v H4 ((e1.trans e2).trans e4) hv)
    subst q1
    refine ⟨q2, q3 _ fun H5 e5 => ?_⟩
    cases hq : q d with
    | true =>
      refine iteT fun s H' C cl fp => q4 hq s H' C cl fp H5 e5 _ fun z H6 e6 hz' => ?_
      have p4 := p3.mono (e3.trans (e5.trans e6))
      have hD6 : H6 Dl = some (.lst acc) := e6 _ _ (e5 _ _ (e3 _ _ p2))
      have hlen : acc.length ≤ xs.length := by
        rw [p3.length, List.length_map]
        exact Nat.le_trans (List.length_filter_le ..) (by rw [List.length_take]; omega)
      refine ⟨acc, hD6, Nat.lt_of_le_of_lt hlen (Nat.lt_of_le_of_lt hz (by decide)), (e4.trans (e5.trans e6)).mut hD, acc ++ [z], upd_same, ?_⟩
      have kp : ExtN H6 (upd H6 Dl (.lst (acc ++ [z]))) := (Ext.refl H6).n.upd hD6
      rw [htk, List.filter_append, List.map_append]
      refine IsAll.append (p4.keep kp (noLsts_all fun w hw => ?_)) ?_
      · obtain ⟨d', h1, rfl⟩ := List.mem_map.mp hw
        obtain ⟨h2, h3⟩ := List.mem_filter.mp h1
        exact hn d' (List.mem_of_mem_take h2) h3
      · rw [List.filter_cons, if_pos hq]
        exact .cons (hz'.keep kp (hn d hmem hq)) .nil
    | false =>
      refine iteF ⟨e4.trans e5, acc, e5 _ _ (e3 _ _ p2), ?_⟩
      rw [htk, List.filter_append, List.map_append, List.filter_cons, if_neg (by rw [hq]; decide)]
      simpa using p3.mono (e3.trans e5)
  · intro H' ⟨p1, acc, p2, p3⟩
    rw [List.take_length] at p3
    exact k _ H' (e2.trans p1) (.lst p2 p3)
/-- [elt for tg in iter if test] -/
theorem ev_lc1 {scope : Scope} {own : List (Str × Nat)} {g : TG} {test : Expr} (q : D → Bool) (f : D → D) (hc : X.calm = true) (hN : X.N.Nodup) (ok : BlkOk X.N X.env.scope scope own) (hi : EvI X σ H tg iter xs) (hz : xs.length ≤ 100000)
    (hg : ∀ s H C cl fp, PG (Bk X scope s H C cl fp) tg g) (hm : GMono g)
    (hs : ∀ d ∈ xs, ∀ v H1, Ext H H1 → Is X.K H1 v d → g v (wipe σ (own.map (·.2))) H1 fun σ2 H2 => H2 = H1 ∧ wipe σ2 (own.map (·.2)) = wipe σ (own.map (·.2)) ∧
      (∀ s H' C cl fp, EvT (Bk X scope s H' C cl fp) σ2 H1 test (q d)) ∧ (q d = true → ∀ s H' C cl fp, Ev (Bk X scope s H' C cl fp) σ2 H1 elt (f d)))
    (hn : ∀ d ∈ xs, q d = true → noLst (f d) = true) (hf : ∀ x, foldedSetIterable iter X.env x = pure x := by intro _; rfl) :
    Ev X σ H (.ListComp elt [⟨tg, iter, [test], 0⟩] scope pos) (.lst ((xs.filter q).map f)) :=
  ev_lcG (tt := bkT X scope test) q f hc hN ok hi hz hg (fun s H C cl fp => pts_one ⟨fun pins s' σ H Q I h => (h _ _ _ _ _).run pins s' I⟩) hm
    (fun d hd v H1 e1 hv => hm _ _ _ _ _ (fun σ2 H2 ⟨q1, q2, q3, q4⟩ => ⟨q1, q2, fun R hR s H' C cl fp => q3 s H' C cl fp H1 (Ext.refl _) R hR, q4⟩) (hs d hd v H1 e1 hv)) hn hf
/-- [elt for tg in iter] -/
theorem ev_lc0 {scope : Scope} {own : List (Str × Nat)} {g : TG} (f : D → D) (hc : X.calm = true) (hN : X.N.Nodup) (ok : BlkOk X.N X.env.scope scope own) (hi : EvI X σ H tg iter xs) (hz : xs.length ≤ 100000)
    (hg : ∀ s H C cl fp, PG (Bk X scope s H C cl fp) tg g) (hm : GMono g)
    (hs : ∀ d ∈ xs, ∀ v H1, Ext H H1 → Is X.K H1 v d → g v (wipe σ (own.map (·.2))) H1 fun σ2 H2 => H2 = H1 ∧ wipe σ2 (own.map (·.2)) = wipe σ (own.map (·.2)) ∧
      (∀ s H' C cl fp, Ev (Bk X scope s H' C cl fp) σ2 H1 elt (f d)))
    (hn : ∀ d ∈ xs, noLst (f d) = true) (hf : ∀ x, foldedSetIterable iter X.env x = pure x := by intro _; rfl) :
    Ev X σ H (.ListComp elt [⟨tg, iter, [], 0⟩] scope pos) (.lst (xs.map f)) := by
  have h := ev_lcG (X := X) (σ := σ) (H := H) (elt := elt) (pos := pos) (tt := tYes) (fun _ => true) f hc hN ok hi hz hg (fun s H C cl fp => pts_nil) hm
    (fun d hd v H1 e1 hv => hm _ _ _ _ _ (fun σ2 H2 ⟨q1, q2, q3⟩ => ⟨q1, q2, fun R hR => hR H1 (Ext.refl _), fun _ => q3⟩) (hs d hd v H1 e1 hv)) (fun d hd _ => hn d hd) hf
  rwa [List.filter_eq_self.mpr (fun _ _ => rfl)] at h

/-! ### for -/
theorem ws_for {body : List Stmt} {g : TG} (hp : PassesOwn (model X.prog X.w) X.A X.env X.xe) (hc : X.calm = true) (hi : EvIB X σ H B tg iter xs) (hg : PG X tg g) (Jv : Nat → L2.St → Hp → Prop) (hB : ∀ i σ' H', Jv i σ' H' → Ext B H')
    (h0 : ∀ H1, Ext H H1 → Jv 0 σ H1) (hs : ∀ i d σ' H' v H'', xs[i]? = some d → Jv i σ' H' → Ext H' H'' → Is X.K H'' v d → g v σ' H'' fun σ2 H2 => WSs X body { Dn with nx := Jv (i + 1), ct := Jv (i + 1), bk := Dn.nx } σ2 H2)
    (hd : ∀ σ' H', Jv xs.length σ' H' → Dn.nx σ' H') (hf : ∀ x, foldedSetIterable iter X.env x = pure x := by intro _; rfl) : WS X (.For tg iter body [] pos) Dn σ H := by
  refine WS.of (ps_for hp hc WI.pi hg WSs.pss hf) (hi H (Ext.refl _) _ fun J H2 e2 y => ?_)
  refine ⟨fun i m σ H => m = xs.length - i ∧ i ≤ xs.length ∧ Jv i σ H, ⟨xs.length, by simp, Nat.zero_le _, h0 H2 e2⟩, ?_⟩
  rintro i m σ' H' ⟨rfl, hle, pj⟩
  by_cases hlt : i < xs.length
  · refine .inr ⟨y.go i H' (hB i _ H' pj) hlt, Jv (i + 1), fun σ2 H3 p' => ⟨xs.length - (i + 1), by omega, rfl, hlt, p'⟩, fun x H'' yy => ?_⟩
    have hd' : xs[i]? = some xs[i] := List.getElem?_eq_getElem hlt
    obtain ⟨e1, v1⟩ := y.yld i H' x H'' xs[i] (hB i _ H' pj) hd' yy
    exact hs i xs[i] σ' H' x H'' hd' pj e1 v1
  · have e : i = xs.length := by omega
    subst e
    exact .inl ⟨y.stop H' (hB _ _ H' pj), hd σ' H' pj⟩
/-- a while by a measure -/
theorem ws_while {body : List Stmt} (hp : PassesOwn (model X.prog X.w) X.A X.env X.xe) (Jv : Nat → L2.St → Hp → Prop) (m0 : Nat) (h0 : Jv m0 σ H)
    (hs : ∀ m σ' H', Jv m σ' H' → ∃ c, EvT X σ' H' e c ∧ (c = true → ∀ H1, Ext H' H1 → WSs X body { Dn with nx := fun σ2 H2 => ∃ m', m' < m ∧ Jv m' σ2 H2, ct := fun σ2 H2 => ∃ m', m' < m ∧ Jv m' σ2 H2, bk := Dn.nx } σ' H1) ∧ (c = false → ∀ H1, Ext H' H1 → Dn.nx σ' H1)) :
    WS X (.While e body [] pos) Dn σ H := by
  refine WS.of (ps_while hp WT.pt WSs.pss) ⟨Jv, ⟨m0, h0⟩, fun m σ' H' hj => ?_⟩
  obtain ⟨c, h1, h2, h3⟩ := hs m σ' H' hj
  refine h1 H' (Ext.refl _) _ fun H1 e1 => ?_
  cases c with
  | true => exact ⟨_, fun σ2 H2 h => h, h2 rfl H1 e1⟩
  | false => exact h3 rfl H1 e1
end
end Wb
/-! Operators and built-ins over data. -/
namespace Wb
open PySem PySem.Spec L2
section
variable {K : PySem.W.Frag}
theorem r2_I0i {g : Int → Int → Int} {i j : Int} : R2D K (rI0 fun i j => .int (g i j)) (.int i) (.int j) (.int (g i j)) := fun x y H hx hy Q q => by
  cases hx; cases hy; exact ⟨i, j, rfl, rfl, q _ H (Ext.refl _) (.int _)⟩
theorem r2_I0b {g : Int → Int → Bool} {i j : Int} : R2D K (rI0 fun i j => .bl (g i j)) (.int i) (.int j) (.bl (g i j)) := fun x y H hx hy Q q => by
  cases hx; cases hy; exact ⟨i, j, rfl, rfl, q _ H (Ext.refl _) (.bl _)⟩
theorem r2_Ii {C : Int → Int → Prop} {g : Int → Int → Int} {i j : Int} (h : C i j) : R2D K (rI C fun i j => .int (g i j)) (.int i) (.int j) (.int (g i j)) := fun x y H hx hy Q q => by
  cases hx; cases hy; exact ⟨i, j, rfl, rfl, h, q _ H (Ext.refl _) (.int _)⟩
theorem dec_str {a b : Str} : decide (V.str a = V.str b) = decide (a = b) := by
  by_cases h : a = b
  · subst h; simp
  · rw [decide_eq_false h, decide_eq_false (fun e => h (V.str.inj e))]
theorem dec_int {a b : Int} : decide (V.int a = V.int b) = decide (a = b) := by
  by_cases h : a = b
  · subst h; simp
  · rw [decide_eq_false h, decide_eq_false (fun e => h (V.int.inj e))]
theorem r2_eqS {a b : Str} : R2D K rEq (.str a) (.str b) (.bl (decide (a = b))) := fun x y H hx hy Q q => by
  cases hx; cases hy; refine ⟨rfl, ?_⟩; rw [dec_str]; exact q _ H (Ext.refl _) (.bl _)
theorem r2_neS {a b : Str} : R2D K rNe (.str a) (.str b) (.bl (!decide (a = b))) := fun x y H hx hy Q q => by
  cases hx; cases hy; refine ⟨rfl, ?_⟩; rw [dec_str]; exact q _ H (Ext.refl _) (.bl _)
theorem r2_eqI {a b : Int} : R2D K rEq (.int a) (.int b) (.bl (decide (a = b))) := fun x y H hx hy Q q => by
  cases hx; cases hy; refine ⟨rfl, ?_⟩; rw [dec_int]; exact q _ H (Ext.refl _) (.bl _)
theorem r2_neI {a b : Int} : R2D K rNe (.int a) (.int b) (.bl (!decide (a = b))) := fun x y H hx hy Q q => by
  cases hx; cases hy; refine ⟨rfl, ?_⟩; rw [dec_int]; exact q _ H (Ext.refl _) (.bl _)
theorem r2_neNI {b : Int} : R2D K rNe .non (.int b) (.bl true) := fun x y H hx hy Q q => by
  cases hx; cases hy; exact ⟨rfl, q _ H (Ext.refl _) (.bl _)⟩
theorem r2_eqB {a b : Bool} : R2D K rEq (.bl a) (.bl b) (.bl (a == b)) := fun x y H hx hy Q q => by
  cases hx; cases hy; refine ⟨rfl, ?_⟩; cases a <;> cases b <;> exact q _ H (Ext.refl _) (.bl _)
theorem r2_neB {a b : Bool} : R2D K rNe (.bl a) (.bl b) (.bl (a != b)) := fun x y H hx hy Q q => by
  cases hx; cases hy; refine ⟨rfl, ?_⟩; cases a <;> cases b <;> exact q _ H (Ext.refl _) (.bl _)
def isNonD : D → Bool
  | .non => true
  | _ => false
theorem isNon_of {H : Hp} {v : V} {d : D} (h : Is K H v d) : decide (v = .non) = isNonD d := by cases h <;> rfl
theorem r2_isN {d : D} : R2D K (fun x y H Q => y = .non ∧ Q (.bl (decide (x = .non))) H) d .non (.bl (isNonD d)) := fun x y H hx hy Q q => by
  cases hy; refine ⟨rfl, ?_⟩; rw [isNon_of hx]; exact q _ H (Ext.refl _) (.bl _)
theorem r2_notN {d : D} : R2D K (fun x y H Q => y = .non ∧ Q (.bl (!decide (x = .non))) H) d .non (.bl (!isNonD d)) := fun x y H hx hy Q q => by
  cases hy; refine ⟨rfl, ?_⟩; rw [isNon_of hx]; exact q _ H (Ext.refl _) (.bl _)
theorem r2_ixL {ds : List D} {j : Nat} {d : D} (h : ds[j]? = some d) : R2D K (rIxL K) (.lst ds) (.int j) d := fun x y H hx hy Q q => by
  cases hy
  cases hx with
  | lst hs ha =>
    obtain ⟨v, hv, hd⟩ := ha.get h
    exact ⟨_, _, _, v, rfl, rfl, .of hs, atI_nat hv, q v H (Ext.refl _) hd⟩
theorem r2_ixT {ds : List D} {j : Nat} {d : D} (h : ds[j]? = some d) : R2D K (rIxT K) (.tup ds) (.int j) d := fun x y H hx hy Q q => by
  cases hy
  cases hx with
  | tup hs ha =>
    obtain ⟨v, hv, hd⟩ := ha.get h
    exact ⟨_, _, _, v, rfl, rfl, hs, atI_nat hv, q v H (Ext.refl _) hd⟩
theorem isAll_snoc {H : Hp} : ∀ {vs : List V} {ds : List D} {d : D}, IsAll K H vs (ds ++ [d]) → ∃ ws v, vs = ws ++ [v] ∧ IsAll K H ws ds ∧ Is K H v d
  | _, [], _, .cons h .nil => ⟨[], _, rfl, .nil, h⟩
  | _, e :: ds, d, h => by
    have h' : IsAll K H _ (e :: (ds ++ [d])) := h
    cases h' with
    | cons h1 t =>
      obtain ⟨ws, v, rfl, t1, h2⟩ := isAll_snoc t
      exact ⟨_ :: ws, v, rfl, .cons h1 t1, h2⟩
theorem r2_ixLast {ds : List D} {d : D} : R2D K (rIxL K) (.lst (ds ++ [d])) (.int (-1)) d := fun x y H hx hy Q q => by
  cases hy
  cases hx with
  | lst hs ha =>
    obtain ⟨ws, v, rfl, _, hd⟩ := isAll_snoc ha
    exact ⟨_, _, _, v, rfl, rfl, .of hs, atI_last ws v, q v H (Ext.refl _) hd⟩
theorem eqV_str {a b : Str} : eqV (.str a) (.str b) = decide (a = b) := by
  show (a == b) = decide (a = b)
  by_cases h : a = b
  · subst h; simp
  · rw [decide_eq_false h]; exact beq_eq_false_iff_ne.mpr h
theorem inV_strs {s : Str} : ∀ ss : List Str, inV (.str s) (ss.map V.str) = decide (s ∈ ss)
  | [] => by simp [inV]
  | t :: ss => by
    have ih := inV_strs (s := s) ss
    unfold inV at ih ⊢
    rw [List.map_cons, List.any_cons, ih, eqV_str]
    by_cases h : t = s
    · subst h; simp
    · have h' : ¬ s = t := fun e => h e.symm
      simp [h, h']
theorem flat_strs : ∀ ss : List Str, (ss.map V.str).all flatV = true
  | [] => rfl
  | _ :: ss => by rw [List.map_cons, List.all_cons, flat_strs ss]; rfl
theorem r2_inSL {s : Str} {ss : List Str} : R2D K (rIn K false) (.str s) (.lst (ss.map .str)) (.bl (decide (s ∈ ss))) := fun x y H hx hy Q q => by
  cases hx
  cases hy with
  | lst hs ha =>
    have e := isAll_strs ha
    subst e
    exact ⟨_, _, rfl, .inl (.of hs), rfl, flat_strs ss, by rw [inV_strs]; exact q _ H (Ext.refl _) (.bl _)⟩
theorem r2_inST {s : Str} {ss : List Str} : R2D K (rIn K false) (.str s) (.tup (ss.map .str)) (.bl (decide (s ∈ ss))) := fun x y H hx hy Q q => by
  cases hx
  cases hy with
  | tup hs ha =>
    have e := isAll_strs ha
    subst e
    exact ⟨_, _, rfl, .inr hs, rfl, flat_strs ss, by rw [inV_strs]; exact q _ H (Ext.refl _) (.bl _)⟩
theorem r2_niSL {s : Str} {ss : List Str} : R2D K (rIn K true) (.str s) (.lst (ss.map .str)) (.bl (!decide (s ∈ ss))) := fun x y H hx hy Q q => by
  cases hx
  cases hy with
  | lst hs ha =>
    have e := isAll_strs ha
    subst e
    exact ⟨_, _, rfl, .inl (.of hs), rfl, flat_strs ss, by rw [inV_strs]; exact q _ H (Ext.refl _) (.bl _)⟩
theorem eqV_int {a b : Int} : eqV (.int a) (.int b) = decide (a = b) := by
  show (a == b) = decide (a = b)
  by_cases h : a = b
  · subst h; simp
  · rw [decide_eq_false h]; exact beq_eq_false_iff_ne.mpr h
theorem inV_ints {s : Int} : ∀ ss : List Int, inV (.int s) (ss.map V.int) = decide (s ∈ ss)
  | [] => by simp [inV]
  | t :: ss => by
    have ih := inV_ints (s := s) ss
    unfold inV at ih ⊢
    rw [List.map_cons, List.any_cons, ih, eqV_int]
    by_cases h : t = s
    · subst h; simp
    · have h' : ¬ s = t := fun e => h e.symm
      simp [h, h']
theorem flat_ints : ∀ ss : List Int, (ss.map V.int).all flatV = true
  | [] => rfl
  | _ :: ss => by rw [List.map_cons, List.all_cons, flat_ints ss]; rfl
theorem r2_niIT {s : Int} {ss : List Int} : R2D K (rIn K true) (.int s) (.tup (ss.map .int)) (.bl (!decide (s ∈ ss))) := fun x y H hx hy Q q => by
  cases hx
  cases hy with
  | tup hs ha =>
    have e := isAll_ints ha
    subst e
    exact ⟨_, _, rfl, .inr hs, rfl, flat_ints ss, by rw [inV_ints]; exact q _ H (Ext.refl _) (.bl _)⟩

/-! ### equality of nested data -/
mutual
def py : D → PyData
  | .non => .none
  | .bl b => .bool b
  | .int i => .int i
  | .str s => .str s
  | .tup ds => .tuple (pys ds)
  | .lst ds => .list (pys ds)
  | .dct _ => .none
  | .man _ => .none
  | .rng _ _ => .none
  | .ty _ => .none
  | .obj _ => .none
def pys : List D → List PyData
  | [] => []
  | d :: ds => py d :: pys ds
end
mutual
/-- None, bools, ints, texts, tuples, lists alone -/
def plainD : D → Bool
  | .non => true
  | .bl _ => true
  | .int _ => true
  | .str _ => true
  | .tup ds => plainDs ds
  | .lst ds => plainDs ds
  | .dct _ => false
  | .man _ => false
  | .rng _ _ => false
  | .ty _ => false
  | .obj _ => false
def plainDs : List D → Bool
  | [] => true
  | d :: ds => plainD d && plainDs ds
end
variable {H : Hp}
mutual
theorem Is.dp : ∀ {v : V} {d : D}, Is K H v d → plainD d = true → Dp K H v (py d)
  | _, _, .non, _ => by rw [py]; exact .non
  | _, _, .bl b, _ => by rw [py]; exact .bl b
  | _, _, .int i, _ => by rw [py]; exact .int i
  | _, _, .str x, _ => by rw [py]; exact .str x
  | _, _, .tup h t, n => by rw [py]; rw [plainD] at n; exact .tup h (IsAll.dp t n)
  | _, _, .lst h t, n => by rw [py]; rw [plainD] at n; exact .lst (.of h) (IsAll.dp t n)
  | _, _, .dct _ _ _ _, n => by rw [plainD] at n; cases n
  | _, _, .man _ _ _ _ _, n => by rw [plainD] at n; cases n
  | _, _, .rng _, n => by rw [plainD] at n; cases n
  | _, _, .ty _, n => by rw [plainD] at n; cases n
  | _, _, .obj _, n => by rw [plainD] at n; cases n
theorem IsAll.dp : ∀ {vs : List V} {ds : List D}, IsAll K H vs ds → plainDs ds = true → DpAll K H vs (pys ds)
  | _, _, .nil, _ => by rw [pys]; exact .nil
  | _, _, .cons h t, n => by
    rw [plainDs] at n
    rw [pys]
    exact .cons (Is.dp h (Bool.and_eq_true_iff.mp n).1) (IsAll.dp t (Bool.and_eq_true_iff.mp n).2)
end
theorem r2_eqD {a b : D} (ha : plainD a = true) (hb : plainD b = true) (sa : SeqAt.shaped (py a) = true) (sb : SeqAt.shaped (py b) = true) : R2D K (rEqD K) a b (.bl (PyData.eqv (py a) (py b))) := fun x y H hx hy Q q =>
  ⟨_, _, hx.dp ha, hy.dp hb, sa, sb, q _ H (Ext.refl _) (.bl _)⟩
theorem r2_neD {a b : D} (ha : plainD a = true) (hb : plainD b = true) (sa : SeqAt.shaped (py a) = true) (sb : SeqAt.shaped (py b) = true) : R2D K (rNeD K) a b (.bl (!PyData.eqv (py a) (py b))) := fun x y H hx hy Q q =>
  ⟨_, _, hx.dp ha, hy.dp hb, sa, sb, q _ H (Ext.refl _) (.bl _)⟩

/-! ### built-ins -/
theorem rc_lenL {ds : List D} : RCD K (fun xs H Q => ∃ p ys, xs = [.ref p] ∧ (SqL K H p ys ∨ SqT K H p ys) ∧ Q (.int ys.length) H) [.lst ds] (.int ds.length) := fun vs H hv Q q => by
  cases hv with
  | cons h t =>
    cases t
    cases h with
    | lst hs ha => exact ⟨_, _, rfl, .inl (.of hs), by rw [ha.length]; exact q _ H (Ext.refl _) (.int _)⟩
theorem rc_lenT {ds : List D} : RCD K (fun xs H Q => ∃ p ys, xs = [.ref p] ∧ (SqL K H p ys ∨ SqT K H p ys) ∧ Q (.int ys.length) H) [.tup ds] (.int ds.length) := fun vs H hv Q q => by
  cases hv with
  | cons h t =>
    cases t
    cases h with
    | tup hs ha => exact ⟨_, _, rfl, .inr hs, by rw [ha.length]; exact q _ H (Ext.refl _) (.int _)⟩
theorem rc_lenS {s : Str} (h : s.length ≤ 100000) : RCD K (fun xs H Q => ∃ z, xs = [.str z] ∧ z.length ≤ sizeLine ∧ Q (.int z.length) H) [.str s] (.int s.length) := fun vs H hv Q q => by
  cases hv with
  | cons h t =>
    cases t; cases h
    exact ⟨s, rfl, small h, q _ H (Ext.refl _) (.int _)⟩
theorem rc_all {bs : List Bool} : RCD K (rAll K) [.lst (bs.map .bl)] (.bl (bs.all id)) := fun vs H hv Q q => by
  cases hv with
  | cons h t =>
    cases t
    cases h with
    | lst hs ha =>
      have e := isAll_bls ha
      subst e
      exact ⟨_, bs, rfl, .of hs, q _ H (Ext.refl _) (.bl _)⟩
theorem rc_any {bs : List Bool} : RCD K (rAny K) [.lst (bs.map .bl)] (.bl (bs.any id)) := fun vs H hv Q q => by
  cases hv with
  | cons h t =>
    cases t
    cases h with
    | lst hs ha =>
      have e := isAll_bls ha
      subst e
      exact ⟨_, bs, rfl, .of hs, q _ H (Ext.refl _) (.bl _)⟩
theorem rc_sum {is : List Int} : RCD K (rSum K) [.lst (is.map .int)] (.int is.sum) := fun vs H hv Q q => by
  cases hv with
  | cons h t =>
    cases t
    cases h with
    | lst hs ha =>
      have e := isAll_ints ha
      subst e
      exact ⟨_, is, rfl, .of hs, q _ H (Ext.refl _) (.int _)⟩
theorem rc_max {is : List Int} {m : Int} (h0 : 0 < is.length) (hm : ∀ k, k ∈ is → (∀ y, y ∈ is → y ≤ k) → k = m) : RCD K (rMax K) [.lst (is.map .int)] (.int m) := fun vs H hv Q q => by
  cases hv with
  | cons h t =>
    cases t
    cases h with
    | lst hs ha =>
      have e := isAll_ints ha
      subst e
      exact ⟨_, is, rfl, .of hs, h0, fun k h1 h2 => by rw [hm k h1 h2]; exact q _ H (Ext.refl _) (.int _)⟩
theorem rc_min {is : List Int} {m : Int} (h0 : 0 < is.length) (hm : ∀ k, k ∈ is → (∀ y, y ∈ is → k ≤ y) → k = m) : RCD K (rMin K) [.lst (is.map .int)] (.int m) := fun vs H hv Q q => by
  cases hv with
  | cons h t =>
    cases t
    cases h with
    | lst hs ha =>
      have e := isAll_ints ha
      subst e
      exact ⟨_, is, rfl, .of hs, h0, fun k h1 h2 => by rw [hm k h1 h2]; exact q _ H (Ext.refl _) (.int _)⟩
theorem rc_max2 {i j : Int} : RCD K (fun xs H Q => ∃ i j, xs = [.int i, .int j] ∧ Q (.int (if j > i then j else i)) H) [.int i, .int j] (.int (if j > i then j else i)) := fun vs H hv Q q => by
  cases hv with
  | cons h t =>
    cases t with
    | cons h2 t =>
      cases t; cases h; cases h2
      exact ⟨i, j, rfl, q _ H (Ext.refl _) (.int _)⟩
theorem rc_min2 {i j : Int} : RCD K (fun xs H Q => ∃ i j, xs = [.int i, .int j] ∧ Q (.int (if j < i then j else i)) H) [.int i, .int j] (.int (if j < i then j else i)) := fun vs H hv Q q => by
  cases hv with
  | cons h t =>
    cases t with
    | cons h2 t =>
      cases t; cases h; cases h2
      exact ⟨i, j, rfl, q _ H (Ext.refl _) (.int _)⟩
theorem rc_intB {b : Bool} : RCD K (fun xs H Q => (∃ i, xs = [.int i] ∧ Q (.int i) H) ∨ ∃ k, xs = [.bl k] ∧ Q (.int (if k then 1 else 0)) H) [.bl b] (.int (if b then 1 else 0)) := fun vs H hv Q q => by
  cases hv with
  | cons h t =>
    cases t; cases h
    exact .inr ⟨b, rfl, q _ H (Ext.refl _) (.int _)⟩
theorem rc_intI {i : Int} : RCD K (fun xs H Q => (∃ i, xs = [.int i] ∧ Q (.int i) H) ∨ ∃ k, xs = [.bl k] ∧ Q (.int (if k then 1 else 0)) H) [.int i] (.int i) := fun vs H hv Q q => by
  cases hv with
  | cons h t =>
    cases t; cases h
    exact .inl ⟨i, rfl, q _ H (Ext.refl _) (.int _)⟩
theorem rc_tupL {ds : List D} : RCD K (fun xs H Q => ∃ p ys, xs = [.ref p] ∧ ((SqL K H p ys ∧ ∀ l, H l = none → Q (.ref l) (upd H l (.tup ys))) ∨ (SqT K H p ys ∧ Q (.ref p) H))) [.lst ds] (.tup ds) := fun vs H hv Q q => by
  cases hv with
  | cons h t =>
    cases t
    cases h with
    | lst hs ha => exact ⟨_, _, rfl, .inl ⟨.of hs, fun l hl => q _ _ (Ext.new hl) (.tup (.of upd_same) (ha.mono (Ext.new hl)))⟩⟩
theorem rc_lstL {ds : List D} : RCD K (fun xs H Q => ∃ p ys, xs = [.ref p] ∧ (SqL K H p ys ∨ SqT K H p ys) ∧ ∀ l, H l = none → Q (.ref l) (upd H l (.lst ys))) [.lst ds] (.lst ds) := fun vs H hv Q q => by
  cases hv with
  | cons h t =>
    cases t
    cases h with
    | lst hs ha => exact ⟨_, _, rfl, .inl (.of hs), fun l hl => q _ _ (Ext.new hl) (.lst upd_same (ha.mono (Ext.new hl)))⟩
/-- the built-in type that data has -/
def tyn : D → String
  | .non => "NoneType"
  | .bl _ => "bool"
  | .int _ => "int"
  | .str _ => "str"
  | .tup _ => "tuple"
  | .lst _ => "list"
  | .dct _ => "dict"
  | _ => ""
theorem tyX_of {v : V} {d : D} (h : Is K H v d) (hd : tyn d ≠ "") : TyX K H v (.type (tyn d)) := by
  cases h with
  | non => exact .base .non
  | bl b => exact .base (.bl b)
  | int i => exact .base (.int i)
  | str x => exact .base (.str x)
  | lst hs ha => exact .base (.lst hs)
  | tup hs ha =>
    rcases hs with (hs | ⟨o, hs⟩) | ⟨o, its, n, h1, h2, _⟩
    · exact .base (.tup hs)
    · exact .fTuple hs
    · exact .kTuple h1 h2
  | dct hs _ _ _ => exact .base (.dK hs)
  | man _ _ _ _ _ => exact absurd rfl hd
  | rng _ => exact absurd rfl hd
  | ty _ => exact absurd rfl hd
  | obj _ => exact absurd rfl hd
theorem rc_isi {d : D} {n : String} {b : Bool} (h : kitB (tyn d) n = some b) (hd : tyn d ≠ "") : RCD K (rIsi K) [d, .ty n] (.bl b) := fun vs H hv Q q => by
  cases hv with
  | cons h1 t =>
    cases t with
    | cons h2 t =>
      cases t; cases h2
      exact ⟨_, _, _, _, b, rfl, .ty n, tyX_of h1 hd, kit_ty h, q _ H (Ext.refl _) (.bl b)⟩
end
section
variable {X : Cx} {e a b : Expr} {σ : L2.St} {H : Hp} {pos p : Pos}
/-- a built-in class's name -/
theorem ev_tyn {x : Str} {n : String} (hm : X.mg x = none) (hv : bootBuiltins x = some (.type n)) (hg : Gl X x := by rfl) (hn : x ≠ "__name__" := by decide) (hd : (x == ("__debug__" : Str)) = false := by decide) : Ev X σ H (.Name x pos) (.ty n) :=
  fun H1 _ Q q => WE.of (pe_bltn (v := .ty n) hg hm hv rfl hn hd) (q _ H1 (Ext.refl _) (.ty n))
end
end Wb
/-! Short rules. -/
namespace Wb
open PySem PySem.Spec L2
section
variable {X : Cx} {a b c e iter tg : Expr} {σ : L2.St} {H B : Hp} {pos p p2 : Pos} {ds xs : List D} {d : D}
theorem ev_v (i : Nat) {x : Str} {v : V} (h : Is X.K H v d) (hs : σ[i]? = some (some v) := by rfl) (hN : X.N[i]? = some x := by rfl) (hv : Vis X.env.scope x := by first | exact Or.inl rfl | exact Or.inr (Or.inl rfl) | exact Or.inr (Or.inr rfl))
    (hd : (x == ("__debug__" : Str)) = false := by decide) (hcd : (x == ("__classdict__" : Str)) = false := by decide) : Ev X σ H (.Name x pos) d := ev_var hs h hN hv hd hcd
theorem evb_v (i : Nat) {x : Str} {v : V} (h : Is X.K B v d) (hs : σ[i]? = some (some v) := by rfl) (hN : X.N[i]? = some x := by rfl) (hv : Vis X.env.scope x := by first | exact Or.inl rfl | exact Or.inr (Or.inl rfl) | exact Or.inr (Or.inr rfl))
    (hd : (x == ("__debug__" : Str)) = false := by decide) (hcd : (x == ("__classdict__" : Str)) = false := by decide) : EvB X σ H B (.Name x pos) d := evb_var hs h hN hv hd hcd
theorem ev_globS {x z : Str} {t : Tok} (hm : X.mg x = some (.str z t)) (hg : Gl X x := by rfl) (hd : (x == ("__debug__" : Str)) = false := by decide) : Ev X σ H (.Name x pos) (.str z) := ev_glob (v := .str z) hg hm ⟨t, rfl⟩ (.str z) hd
theorem ev_globI {x : Str} {i : Int} {t : Tok} (hm : X.mg x = some (.int i t)) (hg : Gl X x := by rfl) (hd : (x == ("__debug__" : Str)) = false := by decide) : Ev X σ H (.Name x pos) (.int i) := ev_glob (v := .int i) hg hm ⟨t, rfl⟩ (.int i) hd
theorem EvW.is {c d : Bool} (h : EvW X σ H e c) (q : c = d) : EvW X σ H e d := q ▸ h
theorem ev_lenL (hm : X.mg "len" = none) (h : Ev X σ H a (.lst ds)) (hg : Gl X "len" := by rfl) (hs : noStar a = true := by rfl) : Ev X σ H (.Call (.Name "len" p) [a] [] pos) (.int ds.length) :=
  ev_callB call_len_seq rc_lenL hm PySem.boot_len (eva_cons h eva_nil hs) hg (by rw [List.all_cons, hs]; rfl)
theorem ev_lenT (hm : X.mg "len" = none) (h : Ev X σ H a (.tup ds)) (hg : Gl X "len" := by rfl) (hs : noStar a = true := by rfl) : Ev X σ H (.Call (.Name "len" p) [a] [] pos) (.int ds.length) :=
  ev_callB call_len_seq rc_lenT hm PySem.boot_len (eva_cons h eva_nil hs) hg (by rw [List.all_cons, hs]; rfl)
theorem ev_lenS {s : Str} (hm : X.mg "len" = none) (h : Ev X σ H a (.str s)) (hl : s.length ≤ 100000) (hg : Gl X "len" := by rfl) (hs : noStar a = true := by rfl) : Ev X σ H (.Call (.Name "len" p) [a] [] pos) (.int s.length) :=
  ev_callB call_len_str (rc_lenS hl) hm PySem.boot_len (eva_cons h eva_nil hs) hg (by rw [List.all_cons, hs]; rfl)
theorem ev_isi {x : Str} {n t : String} {r : Bool} (hm : X.mg "isinstance" = none) (hmx : X.mg x = none) (hv : bootBuiltins x = some (.type n)) (h : Ev X σ H a d) (hk : kitB t n = some r) (ht : tyn d = t := by rfl) (ht0 : t ≠ "" := by decide) (hg : Gl X "isinstance" := by rfl) (hgx : Gl X x := by rfl)
    (hs : noStar a = true := by rfl) (hn : x ≠ "__name__" := by decide) (hd : (x == ("__debug__" : Str)) = false := by decide) : Ev X σ H (.Call (.Name "isinstance" p) [a, .Name x p2] [] pos) (.bl r) :=
  ev_callB call_isi (rc_isi (by rw [ht]; exact hk) (by rw [ht]; exact ht0)) hm PyProof.Rows.boot_isinstance (eva_cons h (eva_cons (ev_tyn hmx hv hgx hn hd) eva_nil rfl) hs) hg (by rw [List.all_cons, hs]; rfl)
theorem ev_allB {bs : List Bool} (hc : X.calm = true) (hm : X.mg "all" = none) (h : Ev X σ H a (.lst (bs.map .bl))) (hg : Gl X "all" := by rfl) (hs : noStar a = true := by rfl) : Ev X σ H (.Call (.Name "all" p) [a] [] pos) (.bl (bs.all id)) :=
  ev_callB (cr_all hc) rc_all hm PyProof.Rows.boot_all (eva_cons h eva_nil hs) hg (by rw [List.all_cons, hs]; rfl)
theorem ev_anyB {bs : List Bool} (hc : X.calm = true) (hm : X.mg "any" = none) (h : Ev X σ H a (.lst (bs.map .bl))) (hg : Gl X "any" := by rfl) (hs : noStar a = true := by rfl) : Ev X σ H (.Call (.Name "any" p) [a] [] pos) (.bl (bs.any id)) :=
  ev_callB (cr_any hc) rc_any hm PyProof.Rows.boot_any (eva_cons h eva_nil hs) hg (by rw [List.all_cons, hs]; rfl)
theorem ev_sumI {is : List Int} (hc : X.calm = true) (hm : X.mg "sum" = none) (h : Ev X σ H a (.lst (is.map .int))) (hg : Gl X "sum" := by rfl) (hs : noStar a = true := by rfl) : Ev X σ H (.Call (.Name "sum" p) [a] [] pos) (.int is.sum) :=
  ev_callB (cr_sum hc) rc_sum hm PyProof.Rows.boot_sum (eva_cons h eva_nil hs) hg (by rw [List.all_cons, hs]; rfl)
theorem ev_max2 {i j : Int} (hc : X.calm = true) (hm : X.mg "max" = none) (h : Ev X σ H a (.int i)) (h2 : Ev X σ H b (.int j)) (hg : Gl X "max" := by rfl) (hs : noStar a = true := by rfl) (hs2 : noStar b = true := by rfl) : Ev X σ H (.Call (.Name "max" p) [a, b] [] pos) (.int (if j > i then j else i)) :=
  ev_callB (call_max2 hc) rc_max2 hm PyProof.Rows.boot_max (eva_cons h (eva_cons h2 eva_nil hs2) hs) hg (by rw [List.all_cons, hs, List.all_cons, hs2]; rfl)
theorem ev_min2 {i j : Int} (hc : X.calm = true) (hm : X.mg "min" = none) (h : Ev X σ H a (.int i)) (h2 : Ev X σ H b (.int j)) (hg : Gl X "min" := by rfl) (hs : noStar a = true := by rfl) (hs2 : noStar b = true := by rfl) : Ev X σ H (.Call (.Name "min" p) [a, b] [] pos) (.int (if j < i then j else i)) :=
  ev_callB (call_min2 hc) rc_min2 hm PyProof.Rows.boot_min (eva_cons h (eva_cons h2 eva_nil hs2) hs) hg (by rw [List.all_cons, hs, List.all_cons, hs2]; rfl)
theorem ev_tupleL (hm : X.mg "tuple" = none) (h : Ev X σ H a (.lst ds)) (hg : Gl X "tuple" := by rfl) (hs : noStar a = true := by rfl) : Ev X σ H (.Call (.Name "tuple" p) [a] [] pos) (.tup ds) :=
  ev_callTy call_tuple_of rc_tupL hm PyProof.Rows.boot_tuple (eva_cons h eva_nil hs) hg (by rw [List.all_cons, hs]; rfl)
theorem ev_listL (hm : X.mg "list" = none) (h : Ev X σ H a (.lst ds)) (hg : Gl X "list" := by rfl) (hs : noStar a = true := by rfl) : Ev X σ H (.Call (.Name "list" p) [a] [] pos) (.lst ds) :=
  ev_callTy call_list_of rc_lstL hm PyProof.Rows.boot_list (eva_cons h eva_nil hs) hg (by rw [List.all_cons, hs]; rfl)
theorem ev_intB {r : Bool} (hm : X.mg "int" = none) (h : Ev X σ H a (.bl r)) (hg : Gl X "int" := by rfl) (hs : noStar a = true := by rfl) : Ev X σ H (.Call (.Name "int" p) [a] [] pos) (.int (if r then 1 else 0)) :=
  ev_callTy call_int1 rc_intB hm PyProof.Rows.boot_int (eva_cons h eva_nil hs) hg (by rw [List.all_cons, hs]; rfl)
theorem ev_intI {i : Int} (hm : X.mg "int" = none) (h : Ev X σ H a (.int i)) (hg : Gl X "int" := by rfl) (hs : noStar a = true := by rfl) : Ev X σ H (.Call (.Name "int" p) [a] [] pos) (.int i) :=
  ev_callTy call_int1 rc_intI hm PyProof.Rows.boot_int (eva_cons h eva_nil hs) hg (by rw [List.all_cons, hs]; rfl)
/-! operators -/
theorem ev_add {i j : Int} (h : Ev X σ H a (.int i)) (h2 : Ev X σ H b (.int j)) : Ev X σ H (.BinOp a .Add b pos) (.int (i + j)) := ev_bin op_add r2_I0i h h2
theorem ev_sub {i j : Int} (h : Ev X σ H a (.int i)) (h2 : Ev X σ H b (.int j)) : Ev X σ H (.BinOp a .Sub b pos) (.int (i - j)) := ev_bin op_sub r2_I0i h h2
theorem ev_mul {i j : Int} (hc : -(2 ^ 64) < i ∧ i < 2 ^ 64) (h : Ev X σ H a (.int i)) (h2 : Ev X σ H b (.int j)) : Ev X σ H (.BinOp a .Mult b pos) (.int (i * j)) := ev_bin op_mul (r2_Ii (.inl hc)) h h2
theorem evt_eqS {x y : Str} (h : Ev X σ H a (.str x)) (h2 : Ev X σ H b (.str y)) : EvT X σ H (.Compare a [.Eq] [b] pos) (decide (x = y)) := evt_cmp op_eq r2_eqS h h2
theorem evt_neS {x y : Str} (h : Ev X σ H a (.str x)) (h2 : Ev X σ H b (.str y)) : EvT X σ H (.Compare a [.NotEq] [b] pos) (!decide (x = y)) := evt_cmp op_ne r2_neS h h2
theorem evt_eqI {x y : Int} (h : Ev X σ H a (.int x)) (h2 : Ev X σ H b (.int y)) : EvT X σ H (.Compare a [.Eq] [b] pos) (decide (x = y)) := evt_cmp op_eq r2_eqI h h2
theorem evt_neI {x y : Int} (h : Ev X σ H a (.int x)) (h2 : Ev X σ H b (.int y)) : EvT X σ H (.Compare a [.NotEq] [b] pos) (!decide (x = y)) := evt_cmp op_ne r2_neI h h2
theorem evt_lt {x y : Int} (h : Ev X σ H a (.int x)) (h2 : Ev X σ H b (.int y)) : EvT X σ H (.Compare a [.Lt] [b] pos) (decide (x < y)) := evt_cmp op_lt r2_I0b h h2
theorem evt_le {x y : Int} (h : Ev X σ H a (.int x)) (h2 : Ev X σ H b (.int y)) : EvT X σ H (.Compare a [.LtE] [b] pos) (decide (x ≤ y)) := evt_cmp op_le r2_I0b h h2
theorem evt_gt {x y : Int} (h : Ev X σ H a (.int x)) (h2 : Ev X σ H b (.int y)) : EvT X σ H (.Compare a [.Gt] [b] pos) (decide (y < x)) := evt_cmp op_gt r2_I0b h h2
theorem evt_ge {x y : Int} (h : Ev X σ H a (.int x)) (h2 : Ev X σ H b (.int y)) : EvT X σ H (.Compare a [.GtE] [b] pos) (decide (y ≤ x)) := evt_cmp op_ge r2_I0b h h2
theorem ev_eqS {x y : Str} (h : Ev X σ H a (.str x)) (h2 : Ev X σ H b (.str y)) : Ev X σ H (.Compare a [.Eq] [b] pos) (.bl (decide (x = y))) := ev_cmp op_eq r2_eqS h h2
theorem ev_neS {x y : Str} (h : Ev X σ H a (.str x)) (h2 : Ev X σ H b (.str y)) : Ev X σ H (.Compare a [.NotEq] [b] pos) (.bl (!decide (x = y))) := ev_cmp op_ne r2_neS h h2
theorem ev_eqI {x y : Int} (h : Ev X σ H a (.int x)) (h2 : Ev X σ H b (.int y)) : Ev X σ H (.Compare a [.Eq] [b] pos) (.bl (decide (x = y))) := ev_cmp op_eq r2_eqI h h2
theorem ev_lt {x y : Int} (h : Ev X σ H a (.int x)) (h2 : Ev X σ H b (.int y)) : Ev X σ H (.Compare a [.Lt] [b] pos) (.bl (decide (x < y))) := ev_cmp op_lt r2_I0b h h2
theorem ev_le {x y : Int} (h : Ev X σ H a (.int x)) (h2 : Ev X σ H b (.int y)) : Ev X σ H (.Compare a [.LtE] [b] pos) (.bl (decide (x ≤ y))) := ev_cmp op_le r2_I0b h h2
theorem ev_ge {x y : Int} (h : Ev X σ H a (.int x)) (h2 : Ev X σ H b (.int y)) : Ev X σ H (.Compare a [.GtE] [b] pos) (.bl (decide (y ≤ x))) := ev_cmp op_ge r2_I0b h h2
theorem ev_isN (h : Ev X σ H a d) : Ev X σ H (.Compare a [.Is] [b] pos) (.bl (isNonD d)) → True := fun _ => trivial
theorem ev_isNone (h : Ev X σ H a d) (h2 : Ev X σ H b .non) : Ev X σ H (.Compare a [.Is] [b] pos) (.bl (isNonD d)) := ev_cmp op_isN r2_isN h h2
theorem evt_isNone (h : Ev X σ H a d) (h2 : Ev X σ H b .non) : EvT X σ H (.Compare a [.Is] [b] pos) (isNonD d) := evt_cmp op_isN r2_isN h h2
theorem evt_notNone (h : Ev X σ H a d) (h2 : Ev X σ H b .non) : EvT X σ H (.Compare a [.IsNot] [b] pos) (!isNonD d) := evt_cmp op_notN r2_notN h h2
theorem evt_inSL {s : Str} {ss : List Str} (h : Ev X σ H a (.str s)) (h2 : Ev X σ H b (.lst (ss.map .str))) (hm : behindInMarks .In b = false := by rfl) : EvT X σ H (.Compare a [.In] [b] pos) (decide (s ∈ ss)) := evt_cmp op_in_seq r2_inSL h h2 hm
theorem evt_inST {s : Str} {ss : List Str} (h : Ev X σ H a (.str s)) (h2 : Ev X σ H b (.tup (ss.map .str))) (hm : behindInMarks .In b = false := by rfl) : EvT X σ H (.Compare a [.In] [b] pos) (decide (s ∈ ss)) := evt_cmp op_in_seq r2_inST h h2 hm
theorem ev_inSL {s : Str} {ss : List Str} (h : Ev X σ H a (.str s)) (h2 : Ev X σ H b (.lst (ss.map .str))) (hm : behindInMarks .In b = false := by rfl) : Ev X σ H (.Compare a [.In] [b] pos) (.bl (decide (s ∈ ss))) := ev_cmp op_in_seq r2_inSL h h2 hm
theorem ev_inST {s : Str} {ss : List Str} (h : Ev X σ H a (.str s)) (h2 : Ev X σ H b (.tup (ss.map .str))) (hm : behindInMarks .In b = false := by rfl) : Ev X σ H (.Compare a [.In] [b] pos) (.bl (decide (s ∈ ss))) := ev_cmp op_in_seq r2_inST h h2 hm
theorem evt_niSL {s : Str} {ss : List Str} (h : Ev X σ H a (.str s)) (h2 : Ev X σ H b (.lst (ss.map .str))) (hm : behindInMarks .NotIn b = false := by rfl) : EvT X σ H (.Compare a [.NotIn] [b] pos) (!decide (s ∈ ss)) := evt_cmp op_notIn_seq r2_niSL h h2 hm
theorem ev_niSL {s : Str} {ss : List Str} (h : Ev X σ H a (.str s)) (h2 : Ev X σ H b (.lst (ss.map .str))) (hm : behindInMarks .NotIn b = false := by rfl) : Ev X σ H (.Compare a [.NotIn] [b] pos) (.bl (!decide (s ∈ ss))) := ev_cmp op_notIn_seq r2_niSL h h2 hm
theorem evt_niIT {s : Int} {ss : List Int} (h : Ev X σ H a (.int s)) (h2 : Ev X σ H b (.tup (ss.map .int))) (hm : behindInMarks .NotIn b = false := by rfl) : EvT X σ H (.Compare a [.NotIn] [b] pos) (!decide (s ∈ ss)) := evt_cmp op_notIn_seq r2_niIT h h2 hm
theorem ev_ixL {j : Nat} (hj : ds[j]? = some d) (h : Ev X σ H a (.lst ds)) (h2 : Ev X σ H b (.int j)) (hs : PlainIx b := by exact fun _ _ => rfl) : Ev X σ H (.Subscript a b pos) d := ev_ix ix_list (r2_ixL hj) h h2 hs
theorem ev_ixT {j : Nat} (hj : ds[j]? = some d) (h : Ev X σ H a (.tup ds)) (h2 : Ev X σ H b (.int j)) (hs : PlainIx b := by exact fun _ _ => rfl) : Ev X σ H (.Subscript a b pos) d := ev_ix ix_tup (r2_ixT hj) h h2 hs
/-- a written place -/
theorem ev_ixLc (j : Nat) {k : Nat} (hj : ds[j]? = some d) (h : Ev X σ H a (.lst ds)) : Ev X σ H (.Subscript a (.Constant (.int j) k p) pos) d := ev_ixL hj h ev_int
theorem ev_ixTc (j : Nat) {k : Nat} (hj : ds[j]? = some d) (h : Ev X σ H a (.tup ds)) : Ev X σ H (.Subscript a (.Constant (.int j) k p) pos) d := ev_ixT hj h ev_int
theorem evt_chainI {i j k : Int} (ha : Ev X σ H a (.int i)) (hb : Ev X σ H b (.int j)) (hc : Ev X σ H c (.int k)) (hm : lastMarks [.Lt, .Lt] [b, c] = false := by with_unfolding_all rfl) : EvT X σ H (.Compare a [.Lt, .Lt] [b, c] pos) (decide (i < j) && decide (j < k)) :=
  fun H1 e1 Q q => WT.of (pt_chain op_lt op_lt WE.pe WE.pe WE.pe hm) (ha H1 e1 _ fun x H2 e2 hx => hb H2 (e1.trans e2) _ fun y H3 e3 hy => by
    cases hx; cases hy
    refine ⟨i, j, rfl, rfl, _, rfl, ?_⟩
    cases h : decide (i < j) with
    | true =>
      refine iteT (hc H3 (e1.trans (e2.trans e3)) _ fun z H4 e4 hz => ?_)
      cases hz
      refine ⟨j, k, rfl, rfl, _, rfl, ?_⟩
      rw [h] at q
      exact q H4 (e2.trans (e3.trans e4))
    | false =>
      refine iteF ⟨_, rfl, ?_⟩
      rw [h] at q
      exact q H3 (e2.trans e3))
theorem r2_niSign {K : PySem.W.Frag} {n : Nat} {z : Str} : R2D K (fun x y H Q => ∃ (c : Nat) (z : Str), x = .str ⟨#[c]⟩ ∧ y = .str z ∧ Q (.bl (!decide (c ∈ z.cps.toList))) H) (.str ⟨#[n]⟩) (.str z) (.bl (!decide (n ∈ z.cps.toList))) := fun x y H hx hy Q q => by
  cases hx; cases hy; exact ⟨n, z, rfl, rfl, q _ H (Ext.refl _) (.bl _)⟩
theorem evt_niSign {n : Nat} {z : Str} (h : Ev X σ H a (.str ⟨#[n]⟩)) (h2 : Ev X σ H b (.str z)) (hm : behindInMarks .NotIn b = false := by rfl) : EvT X σ H (.Compare a [.NotIn] [b] pos) (!decide (n ∈ z.cps.toList)) := evt_cmp op_notIn_sign r2_niSign h h2 hm
theorem yl_str {K : PySem.W.Frag} {x : Str} : Yl K (Its x) B (x.cps.toList.map fun n => .str ⟨#[n]⟩) := by
  refine ⟨fun i H' e hi => by simpa [Its] using hi, fun i H' v H'' d e hd y => ?_, fun H' e => by simp [Its]⟩
  obtain ⟨rfl, n, hn, rfl⟩ := y
  rw [List.getElem?_map, Array.getElem?_toList, hn] at hd
  cases hd
  exact ⟨Ext.refl _, .str _⟩
theorem evi_str {x : Str} (h : Ev X σ H iter (.str x)) : EvIB X σ H B tg iter (x.cps.toList.map fun n => .str ⟨#[n]⟩) :=
  fun H1 e1 R q => WI.of (pi_str WE.pe) (h H1 e1 _ fun v H2 e2 hv => by cases hv; exact ⟨x, rfl, q _ H2 e2 yl_str⟩)
/-- a loop's turn that only lets the heap grow -/
theorem Ext.of_eq {H H' : Hp} (h : H = H') : Ext H H' := h ▸ Ext.refl _
end
/-! isinstance of built-in types, the pairs that are asked -/
theorem k_ii : kitB "int" "int" = some true := by decide +kernel
theorem k_ib : kitB "int" "bool" = some false := by decide +kernel
theorem k_ss : kitB "str" "str" = some true := by decide +kernel
theorem k_ts : kitB "tuple" "str" = some false := by decide +kernel
theorem k_tt : kitB "tuple" "tuple" = some true := by decide +kernel
theorem k_ll : kitB "list" "list" = some true := by decide +kernel
theorem k_lt : kitB "list" "tuple" = some false := by decide +kernel
theorem k_tl : kitB "tuple" "list" = some false := by decide +kernel
end Wb
/-! Marks and cards as data. -/
namespace Wb
open PySem PySem.Spec L2
def mkS : Wb.Mk → PySem.Str
  | .full => "full" | .free => "free" | .some => "some" | .many => "many" | .never => "never"
theorem mkS_ne : (allMk.all fun a => allMk.all fun b => decide (mkS a = mkS b) == decide (a = b)) = true := by decide +kernel
theorem mkS_eq (a b : Wb.Mk) : decide (mkS a = mkS b) = decide (a = b) := by
  have h := List.all_eq_true.mp (List.all_eq_true.mp mkS_ne a (mem_allMk a)) b (mem_allMk b)
  exact beq_iff_eq.mp h
theorem mkS_inj {a b : Wb.Mk} (h : mkS a = mkS b) : a = b := by
  have := mkS_eq a b
  rw [decide_eq_true h] at this
  exact of_decide_eq_true this.symm
theorem mem_mkS {a : Wb.Mk} {l : List Wb.Mk} : decide (mkS a ∈ l.map mkS) = decide (a ∈ l) := by
  by_cases h : a ∈ l
  · rw [decide_eq_true h, decide_eq_true (List.mem_map.mpr ⟨a, h, rfl⟩)]
  · rw [decide_eq_false h, decide_eq_false]
    intro q
    obtain ⟨b, hb, e⟩ := List.mem_map.mp q
    exact h (mkS_inj e ▸ hb)
abbrev mkD (a : Wb.Mk) : D := .str (mkS a)
def rowD (n : Nat) (F : Nat → Wb.Mk) : D := .tup ((List.range n).map fun j => mkD (F j))
def cardD (n : Nat) (f : Crd) : D := .tup ((List.range n).map fun i => rowD n (f i))
theorem noLst_str (s : PySem.Str) : noLst (.str s) = true := by rw [noLst]
theorem noLst_int (s : Int) : noLst (.int s) = true := by rw [noLst]
theorem noLst_bl (s : Bool) : noLst (.bl s) = true := by rw [noLst]
theorem noLst_rowD (n : Nat) (F : Nat → Wb.Mk) : noLst (rowD n F) = true := by
  unfold rowD
  rw [noLst]
  exact noLsts_all fun d hd => by obtain ⟨j, _, rfl⟩ := List.mem_map.mp hd; exact noLst_str _
theorem noLst_cardD (n : Nat) (f : Crd) : noLst (cardD n f) = true := by
  unfold cardD
  rw [noLst]
  exact noLsts_all fun d hd => by obtain ⟨j, _, rfl⟩ := List.mem_map.mp hd; exact noLst_rowD n _
theorem rowD_congr {n : Nat} {F G : Nat → Wb.Mk} (h : ∀ j, j < n → F j = G j) : rowD n F = rowD n G := by
  unfold rowD
  congr 1
  exact List.map_congr_left fun j hj => by rw [h j (List.mem_range.mp hj)]
theorem cardD_congr {n : Nat} {f g : Crd} (h : EqC n f g) : cardD n f = cardD n g := by
  unfold cardD
  congr 1
  exact List.map_congr_left fun i hi => rowD_congr (h i (List.mem_range.mp hi))
/-! equality of cards -/
theorem pys_map {α : Type} (f : α → D) : ∀ l : List α, pys (l.map f) = l.map fun a => py (f a)
  | [] => by rw [List.map_nil, pys]; rfl
  | a :: l => by rw [List.map_cons, pys, pys_map f l]; rfl
theorem plain_map {α : Type} {f : α → D} : ∀ {l : List α}, (∀ a ∈ l, plainD (f a) = true) → plainDs (l.map f) = true
  | [], _ => by rw [List.map_nil, plainDs]
  | a :: l, h => by rw [List.map_cons, plainDs, h a (.head _), plain_map fun b hb => h b (.tail _ hb)]; rfl
theorem eqvAll_map {α : Type} {f g : α → PyData} : ∀ {l : List α}, PyData.eqvAll (l.map f) (l.map g) = l.all fun a => PyData.eqv (f a) (g a)
  | [] => rfl
  | a :: l => by
    show (PyData.eqv (f a) (g a) && PyData.eqvAll (l.map f) (l.map g)) = _
    rw [eqvAll_map]; rfl
theorem plain_mk (a : Wb.Mk) : plainD (mkD a) = true := by rw [plainD]
theorem plain_row (n : Nat) (F : Nat → Wb.Mk) : plainD (rowD n F) = true := by
  unfold rowD; rw [plainD]; exact plain_map fun _ _ => plain_mk _
theorem plain_card (n : Nat) (f : Crd) : plainD (cardD n f) = true := by
  unfold cardD; rw [plainD]; exact plain_map fun _ _ => plain_row n _
theorem py_row (n : Nat) (F : Nat → Wb.Mk) : py (rowD n F) = .tuple ((List.range n).map fun j => .str (mkS (F j))) := by
  unfold rowD
  rw [py, pys_map]
  congr 1
theorem py_card (n : Nat) (f : Crd) : py (cardD n f) = .tuple ((List.range n).map fun i => .tuple ((List.range n).map fun j => .str (mkS (f i j)))) := by
  unfold cardD
  rw [py, pys_map]
  congr 1
  exact List.map_congr_left fun j _ => py_row n _
theorem eqv_card {n : Nat} {f g : Crd} : PyData.eqv (py (cardD n f)) (py (cardD n g)) = decide (EqC n f g) := by
  rw [py_card, py_card]
  show PyData.eqvAll _ _ = _
  rw [eqvAll_map]
  have h : ∀ i j, PyData.eqv (.str (mkS (f i j))) (.str (mkS (g i j))) = decide (f i j = g i j) := fun i j => by
    show (mkS (f i j) == mkS (g i j)) = _
    rw [← mkS_eq]
    by_cases h : mkS (f i j) = mkS (g i j)
    · rw [decide_eq_true h]; exact beq_iff_eq.mpr h
    · rw [decide_eq_false h]; exact beq_eq_false_iff_ne.mpr h
  have h2 : ∀ i, PyData.eqv (.tuple ((List.range n).map fun j => .str (mkS (f i j)))) (.tuple ((List.range n).map fun j => .str (mkS (g i j)))) = (List.range n).all fun j => decide (f i j = g i j) := fun i => by
    show PyData.eqvAll _ _ = _
    rw [eqvAll_map]
    exact congrArg (List.range n).all (funext fun j => h i j)
  simp only [h2]
  by_cases e : EqC n f g
  · rw [decide_eq_true e]
    exact List.all_eq_true.mpr fun i hi => List.all_eq_true.mpr fun j hj => decide_eq_true (e i (List.mem_range.mp hi) j (List.mem_range.mp hj))
  · rw [decide_eq_false e]
    cases q : (List.range n).all fun i => (List.range n).all fun j => decide (f i j = g i j) with
    | false => rfl
    | true =>
      exact absurd (fun i hi j hj => of_decide_eq_true (List.all_eq_true.mp (List.all_eq_true.mp q i (List.mem_range.mpr hi)) j (List.mem_range.mpr hj))) e
end Wb
/-! The text by places; a def's promise by its body. -/
namespace Wb
open PySem PySem.Spec L2
def top (i : Nat) : Stmt := PySem.Challenge.pw_withinbooks_k27_whole_cards_of_writings.main.body.getD i (.Pass ⟨0, 0, 0, 0⟩)
abbrev s_is_whole : Stmt := top 15
abbrev s_is_count : Stmt := top 16
abbrev s_check_count : Stmt := top 17
abbrev s_is_spelt : Stmt := top 18
abbrev s_is_effect : Stmt := top 21
abbrev s_is_manner : Stmt := top 22
abbrev s_are_rooms : Stmt := top 23
abbrev s_Manual_init : Stmt := inClass (top 24) 0
abbrev s_check_manual : Stmt := top 25
abbrev s_check_manuals : Stmt := top 26
abbrev s_check_room : Stmt := top 27
abbrev s_is_book : Stmt := top 29
abbrev s_check_book : Stmt := top 30
abbrev s_coins_left : Stmt := top 31
abbrev s_rests_behind_job : Stmt := top 32
abbrev s_rest_rows : Stmt := top 33
abbrev s_ends_in : Stmt := top 34
abbrev s_is_served : Stmt := top 35
abbrev s_need_from : Stmt := top 36
abbrev s_need_of : Stmt := top 37
abbrev s_is_mark : Stmt := top 41
abbrev s_check_mark : Stmt := top 42
abbrev s_later : Stmt := top 43
abbrev s_best_of : Stmt := top 44
abbrev s_is_better : Stmt := top 45
abbrev s_effect_mark : Stmt := top 46
abbrev s_fits : Stmt := top 47
abbrev s_check_card : Stmt := top 48
abbrev s_row_behind : Stmt := top 49
abbrev s_joined : Stmt := top 50
abbrev s_cards_behind : Stmt := top 51
abbrev s_empty_card : Stmt := top 52
abbrev s_job_card : Stmt := top 53
abbrev s_card_from : Stmt := top 54
abbrev s_card_of : Stmt := top 55
abbrev s_value_from : Stmt := top 56
abbrev s_value_of : Stmt := top 57
abbrev s_check_part : Stmt := top 58
abbrev s_marks_ahead : Stmt := top 59
abbrev s_keeps_mark : Stmt := top 60
abbrev s_best_part : Stmt := top 61
abbrev s_is_best_part : Stmt := top 62
abbrev s_steady_from : Stmt := top 66
abbrev s_again_from : Stmt := top 67
abbrev s_is_written_as : Stmt := top 68
abbrev s_check_expression : Stmt := top 69
abbrev s_expression_card_from : Stmt := top 70
abbrev s_expression_card : Stmt := top 71
abbrev s_kind_from : Stmt := top 72
abbrev s_kind_of : Stmt := top 73
abbrev s_least_copies : Stmt := top 74
abbrev s_size_from : Stmt := top 75
abbrev s_book_from : Stmt := top 76
abbrev s_written_from : Stmt := top 77
abbrev s_check_asked : Stmt := top 78
abbrev s_written : Stmt := top 79
abbrev s_written_size : Stmt := top 80
abbrev s_law_purse : Stmt := top 82
abbrev s_law_mixed : Stmt := top 83
abbrev s_law_draw : Stmt := top 84
abbrev s_law_purses : Stmt := top 85
abbrev s_law_one_of : Stmt := top 86
abbrev s_law_exact : Stmt := top 87
abbrev s_law_word : Stmt := top 88
abbrev s_law_words : Stmt := top 89
abbrev s_law_effect : Stmt := top 90
abbrev s_law_manner : Stmt := top 91
abbrev s_law_some : Stmt := top 92
abbrev s_law_world_of : Stmt := top 93
abbrev s_law_world : Stmt := top 94
abbrev s_law_manual : Stmt := top 95
abbrev s_law_rooms : Stmt := top 96
abbrev s_law_done_book : Stmt := top 97
abbrev s_law_lean : Stmt := top 98
abbrev s_law_steps : Stmt := top 99
abbrev s_law_need : Stmt := top 100
abbrev s_law_expression : Stmt := top 101
abbrev s_law_marks_right : Stmt := top 102
abbrev s_law_written_right : Stmt := top 103
abbrev s_law_cut_right : Stmt := top 104
abbrev s_law : Stmt := top 105
/-! ### the defs as data, in the order of the text -/
def fnOne (g : PySem.Str × Option PySem.Str) (x q : PySem.Str) (st : Stmt) (d : List He.Dv) : He.DefD := ⟨g, x, q, defArgs st, defBody st, defScope st, d, []⟩
def fnAll : List He.DefD := [
  fnOne ("is_whole", none) "is_whole" "is_whole" s_is_whole [],
  fnOne ("is_count", none) "is_count" "is_count" s_is_count [.non],
  fnOne ("check_count", none) "check_count" "check_count" s_check_count [.non],
  fnOne ("is_spelt", none) "is_spelt" "is_spelt" s_is_spelt [],
  fnOne ("is_effect", none) "is_effect" "is_effect" s_is_effect [],
  fnOne ("is_manner", none) "is_manner" "is_manner" s_is_manner [],
  fnOne ("are_rooms", none) "are_rooms" "are_rooms" s_are_rooms [],
  fnOne ("Manual", some "__init__") "__init__" "Manual.__init__" s_Manual_init [],
  fnOne ("check_manual", none) "check_manual" "check_manual" s_check_manual [],
  fnOne ("check_manuals", none) "check_manuals" "check_manuals" s_check_manuals [],
  fnOne ("check_room", none) "check_room" "check_room" s_check_room [],
  fnOne ("is_book", none) "is_book" "is_book" s_is_book [],
  fnOne ("check_book", none) "check_book" "check_book" s_check_book [],
  fnOne ("coins_left", none) "coins_left" "coins_left" s_coins_left [],
  fnOne ("rests_behind_job", none) "rests_behind_job" "rests_behind_job" s_rests_behind_job [],
  fnOne ("rest_rows", none) "rest_rows" "rest_rows" s_rest_rows [],
  fnOne ("ends_in", none) "ends_in" "ends_in" s_ends_in [],
  fnOne ("is_served", none) "is_served" "is_served" s_is_served [],
  fnOne ("need_from", none) "need_from" "need_from" s_need_from [],
  fnOne ("need_of", none) "need_of" "need_of" s_need_of [],
  fnOne ("is_mark", none) "is_mark" "is_mark" s_is_mark [],
  fnOne ("check_mark", none) "check_mark" "check_mark" s_check_mark [],
  fnOne ("later", none) "later" "later" s_later [],
  fnOne ("best_of", none) "best_of" "best_of" s_best_of [],
  fnOne ("is_better", none) "is_better" "is_better" s_is_better [],
  fnOne ("effect_mark", none) "effect_mark" "effect_mark" s_effect_mark [],
  fnOne ("fits", none) "fits" "fits" s_fits [],
  fnOne ("check_card", none) "check_card" "check_card" s_check_card [],
  fnOne ("row_behind", none) "row_behind" "row_behind" s_row_behind [],
  fnOne ("joined", none) "joined" "joined" s_joined [],
  fnOne ("cards_behind", none) "cards_behind" "cards_behind" s_cards_behind [],
  fnOne ("empty_card", none) "empty_card" "empty_card" s_empty_card [],
  fnOne ("job_card", none) "job_card" "job_card" s_job_card [],
  fnOne ("card_from", none) "card_from" "card_from" s_card_from [],
  fnOne ("card_of", none) "card_of" "card_of" s_card_of [],
  fnOne ("value_from", none) "value_from" "value_from" s_value_from [],
  fnOne ("value_of", none) "value_of" "value_of" s_value_of [],
  fnOne ("check_part", none) "check_part" "check_part" s_check_part [],
  fnOne ("marks_ahead", none) "marks_ahead" "marks_ahead" s_marks_ahead [],
  fnOne ("keeps_mark", none) "keeps_mark" "keeps_mark" s_keeps_mark [],
  fnOne ("best_part", none) "best_part" "best_part" s_best_part [],
  fnOne ("is_best_part", none) "is_best_part" "is_best_part" s_is_best_part [],
  fnOne ("steady_from", none) "steady_from" "steady_from" s_steady_from [],
  fnOne ("again_from", none) "again_from" "again_from" s_again_from [],
  fnOne ("is_written_as", none) "is_written_as" "is_written_as" s_is_written_as [],
  fnOne ("check_expression", none) "check_expression" "check_expression" s_check_expression [],
  fnOne ("expression_card_from", none) "expression_card_from" "expression_card_from" s_expression_card_from [],
  fnOne ("expression_card", none) "expression_card" "expression_card" s_expression_card [],
  fnOne ("kind_from", none) "kind_from" "kind_from" s_kind_from [],
  fnOne ("kind_of", none) "kind_of" "kind_of" s_kind_of [],
  fnOne ("least_copies", none) "least_copies" "least_copies" s_least_copies [],
  fnOne ("size_from", none) "size_from" "size_from" s_size_from [],
  fnOne ("book_from", none) "book_from" "book_from" s_book_from [],
  fnOne ("written_from", none) "written_from" "written_from" s_written_from [],
  fnOne ("check_asked", none) "check_asked" "check_asked" s_check_asked [],
  fnOne ("written", none) "written" "written" s_written [],
  fnOne ("written_size", none) "written_size" "written_size" s_written_size [],
  fnOne ("_law_purse", none) "_law_purse" "_law_purse" s_law_purse [],
  fnOne ("_law_mixed", none) "_law_mixed" "_law_mixed" s_law_mixed [],
  fnOne ("_law_draw", none) "_law_draw" "_law_draw" s_law_draw [],
  fnOne ("_law_purses", none) "_law_purses" "_law_purses" s_law_purses [],
  fnOne ("_law_one_of", none) "_law_one_of" "_law_one_of" s_law_one_of [],
  fnOne ("_law_exact", none) "_law_exact" "_law_exact" s_law_exact [],
  fnOne ("_law_word", none) "_law_word" "_law_word" s_law_word [],
  fnOne ("_law_words", none) "_law_words" "_law_words" s_law_words [],
  fnOne ("_law_effect", none) "_law_effect" "_law_effect" s_law_effect [],
  fnOne ("_law_manner", none) "_law_manner" "_law_manner" s_law_manner [],
  fnOne ("_law_some", none) "_law_some" "_law_some" s_law_some [],
  fnOne ("_law_world_of", none) "_law_world_of" "_law_world_of" s_law_world_of [],
  fnOne ("_law_world", none) "_law_world" "_law_world" s_law_world [],
  fnOne ("_law_manual", none) "_law_manual" "_law_manual" s_law_manual [],
  fnOne ("_law_rooms", none) "_law_rooms" "_law_rooms" s_law_rooms [],
  fnOne ("_law_done_book", none) "_law_done_book" "_law_done_book" s_law_done_book [],
  fnOne ("_law_lean", none) "_law_lean" "_law_lean" s_law_lean [],
  fnOne ("_law_steps", none) "_law_steps" "_law_steps" s_law_steps [],
  fnOne ("_law_need", none) "_law_need" "_law_need" s_law_need [],
  fnOne ("_law_expression", none) "_law_expression" "_law_expression" s_law_expression [],
  fnOne ("_law_marks_right", none) "_law_marks_right" "_law_marks_right" s_law_marks_right [],
  fnOne ("_law_written_right", none) "_law_written_right" "_law_written_right" s_law_written_right [],
  fnOne ("_law_cut_right", none) "_law_cut_right" "_law_cut_right" s_law_cut_right [],
  fnOne ("law", none) "law" "law" s_law []]
def faAll : List He.Fa := [
  .glo "is_whole",
  .glo "is_count",
  .glo "check_count",
  .glo "is_spelt",
  .glo "is_effect",
  .glo "is_manner",
  .glo "are_rooms",
  .glo "Manual",
  .glo "check_manual",
  .glo "check_manuals",
  .glo "check_room",
  .glo "is_book",
  .glo "check_book",
  .glo "coins_left",
  .glo "rests_behind_job",
  .glo "rest_rows",
  .glo "ends_in",
  .glo "is_served",
  .glo "need_from",
  .glo "need_of",
  .glo "is_mark",
  .glo "check_mark",
  .glo "later",
  .glo "best_of",
  .glo "is_better",
  .glo "effect_mark",
  .glo "fits",
  .glo "check_card",
  .glo "row_behind",
  .glo "joined",
  .glo "cards_behind",
  .glo "empty_card",
  .glo "job_card",
  .glo "card_from",
  .glo "card_of",
  .glo "value_from",
  .glo "value_of",
  .glo "check_part",
  .glo "marks_ahead",
  .glo "keeps_mark",
  .glo "best_part",
  .glo "is_best_part",
  .glo "steady_from",
  .glo "again_from",
  .glo "is_written_as",
  .glo "check_expression",
  .glo "expression_card_from",
  .glo "expression_card",
  .glo "kind_from",
  .glo "kind_of",
  .glo "least_copies",
  .glo "size_from",
  .glo "book_from",
  .glo "written_from",
  .glo "check_asked",
  .glo "written",
  .glo "written_size",
  .glo "_law_purse",
  .glo "_law_mixed",
  .glo "_law_draw",
  .glo "_law_purses",
  .glo "_law_one_of",
  .glo "_law_exact",
  .glo "_law_word",
  .glo "_law_words",
  .glo "_law_effect",
  .glo "_law_manner",
  .glo "_law_some",
  .glo "_law_world_of",
  .glo "_law_world",
  .glo "_law_manual",
  .glo "_law_rooms",
  .glo "_law_done_book",
  .glo "_law_lean",
  .glo "_law_steps",
  .glo "_law_need",
  .glo "_law_expression",
  .glo "_law_marks_right",
  .glo "_law_written_right",
  .glo "_law_cut_right",
  .glo "law",
  .free "all",
  .free "any",
  .free "bool",
  .free "dict",
  .free "enumerate",
  .free "int",
  .free "isinstance",
  .free "len",
  .free "list",
  .free "max",
  .free "min",
  .free "range",
  .free "reversed",
  .free "set",
  .free "sorted",
  .free "str",
  .free "sum",
  .free "tuple",
  .free "zip",
  .cls "Manual",
  .mkr "Manual",
  .noat "Manual" "rows",
  .noat "Manual" "firsts",
  .noat "Manual" "lasts",
  .noat "Manual" "rooms",
  .noat "Manual" "jobs",
  .str "LETTERS" "abcdefghijklmnopqrstuvwxyz",
  .int "MOST" 3,
  .int "LONGEST" 400,
  .glo "MARKS",
  .glo "RANKS"]
def loose0 : List PySem.Str := ["PurseError", "InvalidBook", "InvalidManners", "InvalidRooms", "InvalidManual", "InvalidManuals", "InvalidRoom", "InvalidCount", "InvalidCard", "InvalidMark", "InvalidExpression", "TooMany", "LETTERS", "is_whole", "is_count", "check_count", "is_spelt", "MOST", "is_effect", "is_manner"]
def loose1 : List PySem.Str := ["are_rooms", "Manual", "check_manual", "check_manuals", "check_room", "is_book", "check_book", "coins_left", "rests_behind_job", "rest_rows", "ends_in", "is_served", "need_from", "need_of", "MARKS", "RANKS", "is_mark", "check_mark", "later", "best_of"]
def loose2 : List PySem.Str := ["is_better", "effect_mark", "fits", "check_card", "row_behind", "joined", "cards_behind", "empty_card", "job_card", "card_from", "card_of", "value_from", "value_of", "check_part", "marks_ahead", "keeps_mark", "best_part", "is_best_part", "PLACE", "LONGEST"]
def loose3 : List PySem.Str := ["steady_from", "again_from", "is_written_as", "check_expression", "expression_card_from", "expression_card", "kind_from", "kind_of", "least_copies", "size_from", "book_from", "written_from", "check_asked", "written", "written_size", "_law_purse", "_law_mixed", "_law_draw", "_law_purses", "_law_one_of"]
def loose4 : List PySem.Str := ["_law_exact", "_law_word", "_law_words", "_law_effect", "_law_manner", "_law_some", "_law_world_of", "_law_world", "_law_manual", "_law_rooms", "_law_done_book", "_law_lean", "_law_steps", "_law_need", "_law_expression", "_law_marks_right", "_law_written_right", "_law_cut_right"]
def looseAll : List PySem.Str := loose0 ++ loose1 ++ loose2 ++ loose3 ++ loose4
-- law at 105; defs 81; facts 112; free ['all', 'any', 'bool', 'dict', 'enumerate', 'int', 'isinstance', 'len', 'list', 'max', 'min', 'range', 'reversed', 'set', 'sorted', 'str', 'sum', 'tuple', 'zip']

def letters : PySem.Str := "abcdefghijklmnopqrstuvwxyz"
def marksL : List PySem.Str := [Wb.Mk.full, .free, .some, .many, .never].map mkS
/-- what the top has written -/
structure Top (w : World) (K : PySem.W.Frag) (mg : PySem.Str → Option Value) : Prop where
  dfn : ∀ (i : Nat) (d : He.DefD), fnAll[i]? = some d → ∃ fd, FunD K d.name d.qual d.params d.body d.scope (d.dvs K) (d.kws K) (He.fAd K d.at_) fd
  glo : ∀ g ∈ fnAll, g.at_.2 = none → mg g.at_.1 = some (.ref (He.ga K g.at_.1))
  c_letters : ∃ t, mg "LETTERS" = some (.str letters t)
  c_most : ∃ t, mg "MOST" = some (.int 3 t)
  c_longest : ∃ t, mg "LONGEST" = some (.int 400 t)
  c_marks : mg "MARKS" = some (.ref (He.ga K "MARKS"))
  marks : ∀ H, SqT K H (He.ga K "MARKS") (marksL.map V.str)
  marksK : ∃ o, K.lookup (He.ga K "MARKS") = some o ∧ o.cls = .type "tuple" ∧ o.dict = none
  c_ranks : mg "RANKS" = some (.ref (He.ga K "RANKS"))
  ranks : ∀ a : Wb.Mk, KDct K w (He.ga K "RANKS") (mkS a) (.int a.rank)
  c_man : mg "Manual" = some (.ref (He.ga K "Manual"))
  manC : Cls K (He.ga K "Manual")
  manM : L2.Mk K (He.ga K "Manual") (He.ma K (He.ga K "Manual") "__init__")
  manA : PySem.W.findIn K (.ref (He.ga K "Manual")) "__class__" = some (some (.builtin "object.__class__"))
  manG : PySem.W.specialIn K (.builtin "object.__class__") "__get__" = some (some (.builtin "getset_descriptor.__get__"))
  manT : PySem.W.takesIn K (.builtin "object.__class__") = some true
  manO : PySem.W.mroIn K (He.ga K "Manual") (.type "object") = some true
  manI : PySem.W.kitOne K (.ref (He.ga K "Manual")) (.ref (He.ga K "Manual")) = some true
  manN : ∀ f ∈ (["rows", "firsts", "lasts", "rooms", "jobs"] : List PySem.Str), NoAttr K (He.ga K "Manual") f
  f_all : mg "all" = none
  f_any : mg "any" = none
  f_bool : mg "bool" = none
  f_dict : mg "dict" = none
  f_enumerate : mg "enumerate" = none
  f_int : mg "int" = none
  f_isinstance : mg "isinstance" = none
  f_len : mg "len" = none
  f_list : mg "list" = none
  f_max : mg "max" = none
  f_min : mg "min" = none
  f_range : mg "range" = none
  f_reversed : mg "reversed" = none
  f_set : mg "set" = none
  f_sorted : mg "sorted" = none
  f_str : mg "str" = none
  f_sum : mg "sum" = none
  f_tuple : mg "tuple" = none
  f_zip : mg "zip" = none
/-- the context of a def's body -/
abbrev Cd (P : Program) (w : World) (K : PySem.W.Frag) (mg : Str → Option Value) (base : Heap) (N : List Str) (g : Str) (st : Stmt) (cdv : Value) (A : Around) (outer : List Env) (s : Shared) (H : Hp) (E : XK) : Cx :=
  (cxOf CX0 P w K mg base N g (defScope st) (He.ga K g) cdv A outer s H E).nox
section
variable {P : Program} {w : World} {K : PySem.W.Frag} {mg : Str → Option Value} {base : Heap}
theorem kp_of {g : Str} {st : Stmt} {N ps : List Str} {k : Nat} {sp : Sp} (T : Top w K mg) (i : Nat) (hi : fnAll[i]? = some (fnOne (g, none) g g st [])) (S : FnScope N ps (defScope st))
    (hb : ∀ (kV doc pm : Value) (an : Option Addr) (cdv ct : Value) (us : List Value), us.length = ps.length → bindArgs (PySem.W.fnOf g g (defArgs st) (defBody st) (defScope st) .none kV doc pm an cdv ct) ⟨us, []⟩ = pure (ps.zip us))
    (len : ∀ vs H Q E, sp vs H Q E → vs.length = ps.length)
    (body : ∀ (cdv : Value) (A : Around) (outer : List Env) (s : Shared) (H : Hp) (vs : List V) (Q : VK) (E : XK), Room k (A.deeper (PyProof.Rows.envOfC g (defScope st) s.heap.objs.size (He.ga K g) cdv)) → sp vs H Q E →
      WSs (Cd P w K mg base N g st cdv A outer s H E) (defBody st) { nx := fun _ H' => Q .non H', rt := Q } (start N vs) H) : Kp P w K mg base g ps [] (k + 1) sp := by
  obtain ⟨fd, F⟩ := T.dfn i _ hi
  refine ⟨⟨fd, [], ?_, ?_, .nil⟩, F.kp, T.glo _ (List.mem_of_getElem? hi) rfl⟩
  · exact FunD.ok F S len fun cdv A outer s H vs Q E hr h => ⟨_, PSs.nox WSs.pss, body cdv A outer s H vs Q E hr h⟩
  · exact FunD.bindsN F hb
/-- .. a promise from data to data -/
theorem kp_d {g : Str} {st : Stmt} {N ps : List Str} {k : Nat} {Rl : List D → D → Prop} (T : Top w K mg) (i : Nat) (hi : fnAll[i]? = some (fnOne (g, none) g g st [])) (S : FnScope N ps (defScope st))
    (hb : ∀ (kV doc pm : Value) (an : Option Addr) (cdv ct : Value) (us : List Value), us.length = ps.length → bindArgs (PySem.W.fnOf g g (defArgs st) (defBody st) (defScope st) .none kV doc pm an cdv ct) ⟨us, []⟩ = pure (ps.zip us))
    (len : ∀ ds d, Rl ds d → ds.length = ps.length)
    (body : ∀ (cdv : Value) (A : Around) (outer : List Env) (s : Shared) (H : Hp) (vs : List V) (ds : List D) (d : D) (Q : VK) (E : XK), Room k (A.deeper (PyProof.Rows.envOfC g (defScope st) s.heap.objs.size (He.ga K g) cdv)) → IsAll K H vs ds → Rl ds d → (∀ v H', Ext H H' → Is K H' v d → Q v H') →
      WSs (Cd P w K mg base N g st cdv A outer s H E) (defBody st) { nx := fun _ H' => Q .non H', rt := Q } (start N vs) H) : Kp P w K mg base g ps [] (k + 1) (spD K Rl) :=
  kp_of T i hi S hb (fun vs H Q E ⟨ds, d, h1, h2, _⟩ => by rw [h1.length, len ds d h2]) fun cdv A outer s H vs Q E hr ⟨ds, d, h1, h2, h3⟩ => body cdv A outer s H vs ds d Q E hr h1 h2 h3
end
end Wb
/-! What the head's run tells. -/
namespace Wb
open PySem PySem.Spec PyProof.Rows L2
def ranksL : List (PySem.Str × He.Dv) := [("free", .int 0), ("some", .int 1), ("full", .int 2), ("many", .int 3), ("never", .int 4)]
def marksB (K : PySem.W.Frag) : Bool := match K.lookup (He.ga K "MARKS") with
  | some ⟨.type c, none, _, _⟩ => decide (c = "tuple")
  | _ => false
def exB (K : PySem.W.Frag) : Bool := He.tupB K "MARKS" [.str "full", .str "free", .str "some", .str "many", .str "never"] && (marksB K && (He.valsB K (He.ga K "RANKS") ranksL &&
  (He.eqO (PySem.W.findIn K (.ref (He.ga K "Manual")) "__class__") (some (some (.builtin "object.__class__"))) && (He.eqO (PySem.W.specialIn K (.builtin "object.__class__") "__get__") (some (some (.builtin "getset_descriptor.__get__"))) &&
    (decide (PySem.W.takesIn K (.builtin "object.__class__") = some true) && (decide (PySem.W.mroIn K (He.ga K "Manual") (.type "object") = some true) && decide (PySem.W.kitOne K (.ref (He.ga K "Manual")) (.ref (He.ga K "Manual")) = some true)))))))
def tabsL : List He.Tab := [((fun K => He.ga K "RANKS"), ["free", "some", "full", "many", "never"])]
abbrev R : PySem.W.OpenRow := PySem.W.OpenLaw.row PySem.Challenge.rw_withinbooks_k27_whole_cards_of_writings
def asF0 : List Addr := [276, 284, 292, 299, 304, 311, 316, 328, 370, 375, 382, 387, 394, 401, 406, 411, 416, 423, 430, 437]
def asF1 : List Addr := [446, 453, 460, 467, 474, 481, 486, 493, 498, 503, 510, 515, 520, 527, 534, 539, 546, 553, 560, 567]
def asF2 : List Addr := [572, 579, 587, 592, 597, 604, 611, 618, 625, 632, 637, 642, 647, 654, 661, 668, 675, 682, 689, 696]
def asF3 : List Addr := [701, 708, 713, 718, 723, 730, 737, 742, 749, 756, 763, 768, 773, 778, 785, 790, 795, 802, 809, 816]
def asF4 : List Addr := [823]
def asW : List Addr := mainGlobals :: 359 :: 358 :: 438 :: 439 :: 277 :: 285 :: (asF0 ++ asF1 ++ asF2 ++ asF3 ++ asF4).flatMap fun a => [a, a - 1]
abbrev AlW : Type := He.AlT × Bool
def obsW (fa : List He.Fa) (fn : List He.DefD) (ex : PySem.W.Frag → Bool) (g : Addr → Option Obj) : AlW := (He.obsT fa fn tabsL (He.frG g asW), ex (He.frG g asW))
def hookW (fa : List He.Fa) (fn : List He.DefD) (ex : PySem.W.Frag → Bool) : PySem.W.Hook where
  α := AlW
  obs := fun s => obsW fa fn ex s.heap.get?
  val := fun w => (He.valT fn tabsL w, true)
  says := fun w h => ∃ K : PySem.W.Frag, K.In h ∧ He.SaysT fa fn tabsL w K ∧ ex K = true
  of := fun _ s e => ⟨He.frG s.heap.get? asW, He.frG_in, congrArg (fun z : AlW => z.1) e, congrArg (fun z : AlW => z.2) e⟩
  keeps := fun _ _ _ ⟨K, hK, c⟩ k => ⟨K, PySem.W.Frag.In.keeps hK k, c⟩
abbrev hk : PySem.W.Hook := hookW faAll fnAll exB
def ob (s : PySem.W.SharedT) : AlW := obsW faAll fnAll exB (HandSHeadRun.getT s)
theorem ob_eq (s : PySem.W.SharedT) : ob s = hk.obs s.abs := by
  have e : HandSHeadRun.getT s = s.abs.heap.get? := funext (HandSHeadRun.getT_eq s)
  show obsW faAll fnAll exB _ = obsW faAll fnAll exB _
  rw [e]
end Wb
set_option maxHeartbeats 0
/-! The top, run in the kernel. -/
namespace Wb
open PySem PySem.Spec PyProof.Rows L2
theorem runF (w : World) : HandSHeadRun.RunEq R (PySem.W.view R.prog [105]) hk ob 7000 looseAll (w.withFollow "special-get-raises" false) := by
  intro os
  kernel_rfl
theorem runT (w : World) : HandSHeadRun.RunEq R (PySem.W.view R.prog [105]) hk ob 7000 looseAll (w.withFollow "special-get-raises" true) := by
  intro os
  kernel_rfl
theorem runW (w : World) : HandSHeadRun.RunEq R (PySem.W.view R.prog [105]) hk ob 7000 looseAll w :=
  PySem.W.byRow2 "special-get-raises" (P := fun w => HandSHeadRun.RunEq R (PySem.W.view R.prog [105]) hk ob 7000 looseAll w) runF runT w
end Wb
namespace Wb
open PySem PySem.Spec L2
def IsWord (s : Str) : Prop := 0 < s.length ∧ s.length < 9 ∧ ∀ n ∈ s.cps.toList, n ∈ letters.cps.toList
section
variable {P : Program} {w : World} {K : PySem.W.Frag} {mg : Str → Option Value} {base : Heap}
/-! is_whole -/
def Rwhole : List D → D → Prop := fun ds d => ∃ i, ds = [.int i] ∧ d = .bl true
theorem kp_is_whole (T : Top w K mg) : Kp P w K mg base "is_whole" ["value"] [] 1 (spD K Rwhole) := by
  refine kp_d (N := ["value"]) T 0 rfl ⟨rfl, rfl, rfl, by decide +kernel, rfl, by decide +kernel, by decide +kernel⟩ (fun _ _ _ _ _ _ us hl => match us, hl with | [_], _ => rfl) (fun ds d ⟨i, h, _⟩ => by rw [h]; rfl) ?_
  rintro cdv A outer s H vs ds d Q E hr hv ⟨i, rfl, rfl⟩ k
  obtain _ | ⟨h1, _ | _⟩ := hv
  refine wss_one (ws_ret ?_ k)
  refine ev_and (c := true) (d := true) (ev_isi T.f_isinstance T.f_int PyProof.Rows.boot_int (ev_v 0 h1) k_ii) fun _ => ?_
  exact ev_one (ev_not (c := false) (ev_isi T.f_isinstance T.f_bool PyProof.Rows.boot_bool (ev_v 0 h1) k_ib))
/-! is_spelt -/
def Rspelt : List D → D → Prop := fun ds d => (∃ s, ds = [.str s] ∧ IsWord s ∧ d = .bl true) ∨ ∃ l, ds = [.tup l] ∧ d = .bl false
theorem kp_is_spelt (T : Top w K mg) : Kp P w K mg base "is_spelt" ["value"] [] 1 (spD K Rspelt) := by
  obtain ⟨tl, hL⟩ := T.c_letters
  refine kp_d (N := ["value", "letter"]) T 3 rfl ⟨rfl, rfl, rfl, by decide +kernel, rfl, by decide +kernel, by decide +kernel⟩ (fun _ _ _ _ _ _ us hl => match us, hl with | [_], _ => rfl) (fun ds d h => by rcases h with ⟨s, rfl, _⟩ | ⟨l, rfl, _⟩ <;> rfl) ?_
  rintro cdv A outer s H vs ds d Q E hr hv (⟨x, rfl, ⟨h0, h9, hl⟩, rfl⟩ | ⟨l, rfl, rfl⟩) k
  · obtain _ | ⟨h1, _ | _⟩ := hv
    refine wss_cons (ws_skip (EvW.t ?_) fun H1 e1 => ?_)
    · refine EvW.is (evw_or (c := false) (d := false) (evt_not (c := true) (evt_val (ev_isi T.f_isinstance T.f_str PyProof.Rows.boot_str (ev_v 0 h1) k_ss))) fun _ => ?_) rfl
      refine evw_or1 (EvT.is (evt_not (evt_chainI ev_int (ev_lenS T.f_len (ev_v 0 h1) (by omega)) ev_int)) ?_)
      rw [decide_eq_true (by omega), decide_eq_true (by omega)]; rfl
    · refine wss_cons (ws_for PassesOwn.never rfl (B := H) (evi_str (ev_v 0 (h1.mono e1))) (pg_name (i := 1) (by decide +kernel : (["value", "letter"] : List Str).Nodup) rfl (.inl rfl)) (fun i σ' H' => Ext H H' ∧ ∃ v0 v1, σ' = [some v0, v1]) (fun i σ' H' h => h.1) (fun H2 e2 => ⟨e1.trans e2, _, _, rfl⟩) ?_ ?_)
      · rintro i d σ' H' v H'' hd ⟨e3, v0, v1, rfl⟩ e4 hv
        obtain ⟨n, hn, rfl⟩ := List.mem_map.mp (List.mem_of_getElem? hd)
        refine wss_one (ws_skip (EvT.is (evt_niSign (ev_v 1 hv) (ev_globS hL)) ?_) fun H5 e5 => ⟨e3.trans (e4.trans e5), _, _, rfl⟩)
        rw [decide_eq_true (hl n hn)]; rfl
      · rintro σ' H' ⟨e3, _⟩
        exact wss_one (ws_ret ev_bl fun v H1 e hv => k v H1 (e3.trans e) hv)
  · obtain _ | ⟨h1, _ | _⟩ := hv
    refine wss_cons (ws_if (c := true) (EvW.t ?_) (fun _ H1 e1 => ?_) (fun q => by cases q))
    · exact EvW.is (evw_or (c := true) (d := true) (evt_not (c := false) (evt_val (ev_isi T.f_isinstance T.f_str PyProof.Rows.boot_str (ev_v 0 h1) k_ts))) fun q => by cases q) rfl
    · exact wss_one (ws_ret ev_bl fun v H2 e2 hv => k v H2 (e1.trans e2) hv)
end
end Wb
/-! Walks over a tuple with places, over a range that is a value. -/
namespace PySem
set_option maxHeartbeats 1000000 in
theorem meetsEnum1 {v : Value} {o : Obj} {H : Heap → Prop} (B : Begins v o H) :
    Meets (Builtin.«enumerate.__new__» ⟨[.type "enumerate", v], []⟩) fun _ R s => H s.heap ∧
      R (.ok (.ret (.ref (s.heap.push o).objs.size))) { s with heap := (s.heap.push o).push { cls := .type "enumerate", data := .fields #[.none, .bool false, .ref s.heap.objs.size, rawInt 0, .none, .none] } } := by
  refine .of_wp fun prog w A R s h => ?_
  obtain ⟨hp, g, d, tk, os⟩ := s
  obtain ⟨begun, rest⟩ := h
  have subE := sub_enumerate
  have step : ∀ {A' : Around} {E : Value → Shared → Prop} {Q : Value → Shared → Prop}, Q (.ref hp.objs.size) ⟨hp.push o, g, d, tk, os⟩ → wpAny (model prog w) A' (pyIter v) Q E ⟨hp, g, d, tk, os⟩ := fun q => B.iter prog w _ _ _ _ begun q
  wp_walk using step
  refine wpAny_stack_any fun st => wpAny_pure ?_
  split
  next c _ _ _ _ _ => cases (c == Value.type "enumerate") <;> (wp_walk using step; exact ⟨_, rfl, rest⟩)
  next => wp_walk using step; exact ⟨_, rfl, rest⟩
section
variable {prog : Program} {w : World} {A : Around} {E : Value → Shared → Prop} {s : Shared}
theorem enumBegins {v : Value} {o : Obj} {H : Heap → Prop} {Q : Value → Shared → Prop} (B : Begins v o H) (h1 : H s.heap)
    (h : ∀ h', IsEnum h' (s.heap.objs.size + 1) s.heap.objs.size 0 .none → h'.get? s.heap.objs.size = some o →
      (∀ b u, s.heap.get? b = some u → h'.get? b = some u) → Q (.ref (s.heap.objs.size + 1)) { s with heap := h' }) : wpAny (model prog w) A (call (.type "enumerate") [v]) Q E s := by
  have sz : (s.heap.push o).objs.size = s.heap.objs.size + 1 := Heap.size_push ..
  have en := Heap.get?_push_size (s.heap.push o) (o := { cls := .type "enumerate", data := .fields #[.none, .bool false, .ref s.heap.objs.size, rawInt 0, .none, .none] }) rfl
  rw [sz] at en
  have k := h _ en (Heap.get?_push_of_some _ (Heap.get?_push_size _ B.free)) fun b u x => Heap.get?_push_of_some _ (Heap.get?_push_of_some _ x)
  refine callType_new F.called_enumerate (by decide) (F.typeCall_enumerate_1 _) (F.newCall_enumerate_1 _) (fun obj => F.args_object_init_2 obj _) F.entry_enumerate_new (meetsEnum1 B) ⟨h1, ?_⟩
  show _ ∧ _
  rw [sz]
  exact ⟨⟨_, en, rfl⟩, k⟩
end
end PySem
namespace Wb
open PySem PySem.Spec L2 PyProof.Rows
/-- the tuple at a, with the places -/
def ItE (K : PySem.W.Frag) (a : Addr) : It :=
  ⟨fun i H => ∃ (xs : List V) (x : V), SqT K H a xs ∧ xs[i]? = some x, fun i H v H' => ∃ T x, v = .ref T ∧ H T = none ∧ H' = upd H T (.tup [.int (i : Nat), x]) ∧ ∀ xs, SqT K H a xs → xs[i]? = some x, fun i H => ∃ xs : List V, SqT K H a xs ∧ xs.length = i⟩
def tnE (a e it : Addr) : Nat → Heap → Prop := fun i h => (∃ old, IsEnum h e it ((i : Nat) : Int) old) ∧ h.IsTupleIter it a i ∧ e ≠ it
theorem turn_enumT {P : Program} {w : World} {K : PySem.W.Frag} {elts : List Expr} {kk : Nat} {tpos : Pos} (a e it : Addr) : Turn P w K (.Tuple elts kk tpos) (ItE K a) [e, it] e (tnE a e it) := by
  refine ⟨by simp, fun i h st b hb => ?_, fun i h h' st k => ?_, ?_, ?_, fun A i s Q E st h => ?_⟩
  · obtain ⟨⟨old, he⟩, ⟨o, ho, hc, hd⟩, _⟩ := st
    rcases List.mem_cons.mp hb with rfl | hb
    · exact ⟨_, he, fun v q => nomatch q⟩
    · rcases List.mem_singleton.mp hb with rfl
      exact ⟨o, ho, fun v q => by rw [hd] at q; cases q⟩
  · obtain ⟨⟨old, he⟩, hi, ne⟩ := st
    exact ⟨⟨old, k e (.head _) _ he⟩, hi.at fun o q => k it (.tail _ (.head _)) o q, ne⟩
  · rintro X rfl rfl rfl hc i pins s σ H E I hf ⟨⟨old, he⟩, hit, hne⟩ ⟨xs, x, hq, hx⟩
    obtain ⟨its, rv, p, hz⟩ := I.tuple hq
    have p' : s.heap.IsTuple a its.toArray := p
    obtain ⟨u, hu, ru⟩ := rv.get hx
    have hel : e < s.heap.objs.size := Heap.lt_size he
    have hil : it < s.heap.objs.size := by obtain ⟨_, q, _⟩ := hit; exact Heap.lt_size q
    have hai : a ≠ it := fun z => by
      subst z
      obtain ⟨o1, q1, c1, _⟩ := hit
      obtain ⟨o2, q2, c2, _⟩ := p'
      rw [q1] at q2; cases q2
      rw [c1] at c2; exact absurd c2 (by simp)
    have hae : e ≠ a := fun z => by
      subst z
      obtain ⟨o2, q2, c2, _⟩ := p'
      rw [he] at q2; cases q2
      exact absurd c2 (by simp)
    have hlt : i < its.toArray.size := by
      obtain ⟨q, _⟩ := List.getElem?_eq_some_iff.mp hu
      simpa using q
    have Dr := Draws.tuple (prog := X.prog) (w := X.w) (A := X.A.in1) (I.ok.hd hc) it a hai its.toArray
    refine wpAny_pyNext_enum_itemD Dr he ⟨hit, p'⟩ hlt hne (by simp [hne, hae]) fun y h' tk hy ho hst hT hsz hk => ?_
    have ey : y = u := by
      rw [List.getElem?_toArray] at hy
      rw [hy] at hu; cases hu; rfl
    subst ey
    refine ⟨_, rfl, wpAny_letOwnedTupleGo_enum (s := { s with heap := h', toks := tk + 1 }) ho fun h'' he' sb => ?_⟩
    have hT2 : h''.get? s.heap.objs.size = some { cls := .type "tuple", data := .seq #[.int i tk, y] } := (sb.2 _ (Nat.ne_of_gt hel)).trans hT
    have new : ObjOk X.prog X.w (upd H s.heap.objs.size (.tup [.int (i : Nat), x])) h'' s.heap.objs.size (.tup [.int (i : Nat), x]) := ⟨small (by show 2 ≤ 100000; decide), [.int i tk, y], .cons ⟨_, rfl⟩ (.cons ru .nil), ⟨_, hT2, rfl, _, rfl⟩⟩
    have kept : ∀ b ob, b ∉ [e, it] → s.heap.get? b = some ob → h''.get? b = some ob := fun b ob hb q => by
      have b1 : b ≠ e := fun z => hb (by simp [z])
      have b2 : b ≠ it := fun z => hb (by simp [z])
      exact (sb.2 b b1).trans (hk b ob b1 b2 q)
    have I1 : Inv X pins σ (upd H s.heap.objs.size (.tup [.int (i : Nat), x])) { s with heap := h'', toks := tk + 1 } := I.turnedNew (ch := [e, it]) kept hf (Nat.le_refl _) new
    have he3 : IsEnum h'' e it (((i + 1 : Nat)) : Int) y := by
      have e1 : ((i + 1 : Nat) : Int) = (i : Int) + 1 := by omega
      rw [e1]; exact he'
    refine ⟨.ref s.heap.objs.size, _, I1, rfl, ⟨_, x, rfl, I.hok.fresh (Nat.le_refl _), rfl, fun ys hy => by rw [I.tuple_inj hy hq]; exact hx⟩, ⟨⟨y, he3⟩, hst.1.at fun o q => (sb.2 it hne.symm).trans q, hne⟩, fun b hb => ?_⟩
    have hb' : b ≠ s.heap.objs.size := by
      rcases List.mem_cons.mp hb with rfl | hb
      · exact Nat.ne_of_lt hel
      · rw [List.mem_singleton.mp hb]; exact Nat.ne_of_lt hil
    rw [upd_ne hb']
    exact (hf b hb).1
  · rintro X rfl rfl rfl hc i pins s σ H E I hf ⟨⟨old, he⟩, hit, hne⟩ ⟨xs, hq, hx⟩
    obtain ⟨its, rv, p, hz⟩ := I.tuple hq
    have p' : s.heap.IsTuple a its.toArray := p
    obtain ⟨f0, f1, f2, f3, f4, f5⟩ := hf it (.tail _ (.head _))
    have hai : a ≠ it := fun z => by
      subst z
      obtain ⟨o1, q1, c1, _⟩ := hit
      obtain ⟨o2, q2, c2, _⟩ := p'
      rw [q1] at q2; cases q2
      rw [c1] at c2; exact absurd c2 (by simp)
    have el : i = its.toArray.size := by
      have hl := rv.length
      simp only [List.size_toArray]; omega
    have Dr := Draws.tuple (prog := X.prog) (w := X.w) (A := X.A.in1) (I.ok.hd hc) it a hai its.toArray
    refine wpAny_pyNext_enum_endD Dr he ⟨by rw [← el]; exact hit, p'⟩ fun h' eb => ⟨rfl, I.turned (t' := s.toks) (fun b o hb q => eb b o hb q) f0 f1 f3 f4 f5⟩
  · obtain ⟨⟨_, he⟩, _⟩ := st
    exact wpAny_pyIter_enum he h
def iEnumT (K : PySem.W.Frag) (ta : TA) : TI := fun σ H R => ta σ H fun vs H1 => ∃ a xs, vs = [.ref a] ∧ SqT K H1 a xs ∧ R (ItE K a) H1
theorem pi_enumT {X : Cx} {e : Expr} {ta : TA} {p pos tpos : Pos} {elts : List Expr} {kk : Nat} (hg : Gl X "enumerate") (hm : X.mg "enumerate" = none) (ha : PA X [e] ta) (hs : starEach [e] X.env = [(false, eval e X.env)] := by rfl) :
    PI X (.Tuple elts kk tpos) (.Call (.Name "enumerate" p) [e] [] pos) (iEnumT X.K ta) := by
  refine ⟨fun pins s σ H R I h => Call_ (ld_blt I hg hm boot_enumerate (PyProof.Rows.callWith_type1 (thn (ha.run pos pins s σ H _ I h) ?_) hs rfl))⟩
  rintro us s1 ⟨vs, H1, I1, r1, a, xs, rfl, hq, q⟩
  obtain ⟨u, rfl, ru⟩ := vals1 r1
  obtain rfl : u = Value.ref a := ru
  obtain ⟨its, rv, p', hz⟩ := I1.tuple hq
  have p2 : s1.heap.IsTuple a its.toArray := p'
  refine enumBegins (begins_tuple a its.toArray) p2 fun h' he hit hk => wpAny_pyIter_enum he ?_
  have I2 : Inv X pins σ H1 { s1 with heap := h' } := I1.kept (t' := s1.toks) hk
  refine ⟨s1.heap.objs.size + 1, [s1.heap.objs.size + 1, s1.heap.objs.size], _, _, H1, rfl, I2, turn_enumT a (s1.heap.objs.size + 1) s1.heap.objs.size, ⟨⟨.none, he⟩, ⟨_, hit, rfl, rfl⟩, Nat.succ_ne_self _⟩, fun b hb => ?_, q⟩
  have hle : s1.heap.objs.size ≤ b := by
    rcases List.mem_cons.mp hb with rfl | hb
    · exact Nat.le_succ _
    · rw [List.mem_singleton.mp hb]; exact Nat.le_refl _
  exact I1.fpOk hle (I1.hok.fresh hle)

/-! a range as a value -/
theorem call_rng {X : Cx} : CallR X (.type "range") (fun vs H Q => ∃ j : Int, vs = [V.int j] ∧ ∀ p, H p = none → Q (.ref p) (upd H p (.rng 0 j))) := by
  rintro pins s σ H vs us Q I r ⟨j, rfl, q⟩
  obtain ⟨u, rfl, t, rfl⟩ := vals1 r
  refine call_range_1 ⟨.ref s.heap.objs.size, upd H s.heap.objs.size (.rng 0 j), I.laid (t' := s.toks + 1 + 1) (fun b o e => Heap.get?_push_of_some _ e) (Nat.le_refl _) ?_, rfl, q _ (I.hok.fresh (Nat.le_refl _))⟩
  exact ⟨s.toks, t, s.toks + 1, Heap.get?_push_size _ rfl⟩
def iRngV (K : PySem.W.Frag) (te : TE) : TI := fun σ H R => te σ H fun x H1 => ∃ a j, x = .ref a ∧ H1 a = some (.rng 0 j) ∧ -(2 ^ 62) ≤ j ∧ j < 2 ^ 62 ∧ R (Itr 0 j.toNat) H1
theorem pi_rngV {X : Cx} {tg e : Expr} {te : TE} (he : PE X e te) : PI X tg e (iRngV X.K te) := by
  refine ⟨fun pins s σ H R I h => thn (he.run pins s σ H _ I h) ?_⟩
  rintro v s1 ⟨x, H1, I1, r1, a, j, rfl, ha, h1, h2, q⟩
  obtain rfl : v = Value.ref a := r1
  obtain ⟨t, u, c, ho⟩ := I1.hok a _ ha
  refine wpAny_pyIter_range (a := 0) (b := j) (c := 1) (t := t) (u := u) (v := c) ho (small_one (by decide) (by decide) h1 h2) ?_
  refine pi_one (tk := s1.toks) I1 _ (turn_range _ 0 j.toNat) ?_ q
  have e2 : ((j.toNat : Nat) : Int) - ((0 : Nat) : Int) = Builtin.Range.rangeSize 0 j 1 := by rw [rangeSize_one]; split <;> omega
  show IsRangeIter _ _ (0 + ((0 : Nat) : Int) * 1) (((j.toNat : Nat) : Int) - ((0 : Nat) : Int)) 1
  rw [e2]
  exact Heap.get?_push_size _ rfl
section
variable {X : Cx} {e a b iter tg elt : Expr} {σ : L2.St} {H B : Hp} {pos p : Pos} {xs ds : List D}
theorem rc_rng {K : PySem.W.Frag} {j : Int} : RCD K (fun vs H Q => ∃ j : Int, vs = [V.int j] ∧ ∀ p, H p = none → Q (.ref p) (upd H p (.rng 0 j))) [.int j] (.rng 0 j) := fun vs H hv Q q => by
  obtain _ | ⟨h1, _ | _⟩ := hv
  cases h1
  exact ⟨j, rfl, fun p hp => q _ _ (Ext.new hp) (.rng upd_same)⟩
theorem ev_rng {j : Int} (hm : X.mg "range" = none) (h : Ev X σ H a (.int j)) (hg : Gl X "range" := by rfl) (hs : noStar a = true := by rfl) : Ev X σ H (.Call (.Name "range" p) [a] [] pos) (.rng 0 j) :=
  ev_callTy call_rng rc_rng hm PyProof.Rows.boot_range (eva_cons h eva_nil hs) hg (by rw [List.all_cons, hs]; rfl)
theorem evi_rngV {n : Nat} (h : Ev X σ H iter (.rng 0 n)) (hn : n ≤ 1000000) : EvIB X σ H B tg iter ((List.range n).map fun i => .int (i : Nat)) :=
  fun H1 e1 R q => WI.of (pi_rngV WE.pe) (h H1 e1 _ fun v H2 e2 hv => by
    cases hv with
    | rng ha =>
      refine ⟨_, n, rfl, ha, by omega, by omega, ?_⟩
      have y : Yl X.K (Itr 0 n) B ((List.range n).map fun i => .int (0 + (i : Nat))) := yl_range
      have e0 : ((List.range n).map fun i => D.int (0 + (i : Nat))) = (List.range n).map fun i => D.int (i : Nat) := by simp
      rw [e0] at y
      exact q _ H2 e2 y)
theorem yl_enumT {K : PySem.W.Frag} {a : Addr} (h : Is K B (.ref a) (.tup xs)) : Yl K (ItE K a) B (enumD xs) := by
  cases h with
  | @tup _ vs _ hs ha =>
    have lv := ha.length
    refine ⟨fun i H' e hi => ?_, fun i H' v H'' d e hd y => ?_, fun H' e => ⟨vs, sqT_mono e hs, by rw [enumD_length]; exact lv⟩⟩
    · rw [enumD_length] at hi
      obtain ⟨v, hv, _⟩ := ha.get (List.getElem?_eq_getElem hi)
      exact ⟨vs, v, sqT_mono e hs, hv⟩
    · obtain ⟨T, x, rfl, hT, rfl, y⟩ := y
      obtain ⟨x', hx', rfl⟩ := enumD_get hd
      obtain ⟨d', h1, h2⟩ := ha.get' (y vs (sqT_mono e hs))
      rw [hx'] at h1; cases h1
      exact ⟨Ext.new hT, .tup (.of upd_same) (.cons (.int _) (.cons (h2.mono (e.trans (Ext.new hT))) .nil))⟩
end

section
variable {K : PySem.W.Frag} {H : Hp} {vs : List V} {a b c d e : D}
theorem isAll1 (h : IsAll K H vs [a]) : ∃ v, vs = [v] ∧ Is K H v a := by
  cases h with | cons x t => cases t with | nil => exact ⟨_, rfl, x⟩
theorem isAll2 (h : IsAll K H vs [a, b]) : ∃ v0 v1, vs = [v0, v1] ∧ Is K H v0 a ∧ Is K H v1 b := by
  cases h with | cons x t => obtain ⟨v1, rfl, h1⟩ := isAll1 t; exact ⟨_, _, rfl, x, h1⟩
theorem isAll3 (h : IsAll K H vs [a, b, c]) : ∃ v0 v1 v2, vs = [v0, v1, v2] ∧ Is K H v0 a ∧ Is K H v1 b ∧ Is K H v2 c := by
  cases h with | cons x t => obtain ⟨v1, v2, rfl, h1, h2⟩ := isAll2 t; exact ⟨_, _, _, rfl, x, h1, h2⟩
theorem isAll4 (h : IsAll K H vs [a, b, c, d]) : ∃ v0 v1 v2 v3, vs = [v0, v1, v2, v3] ∧ Is K H v0 a ∧ Is K H v1 b ∧ Is K H v2 c ∧ Is K H v3 d := by
  cases h with | cons x t => obtain ⟨v1, v2, v3, rfl, h1, h2, h3⟩ := isAll3 t; exact ⟨_, _, _, _, rfl, x, h1, h2, h3⟩
theorem isAll5 (h : IsAll K H vs [a, b, c, d, e]) : ∃ v0 v1 v2 v3 v4, vs = [v0, v1, v2, v3, v4] ∧ Is K H v0 a ∧ Is K H v1 b ∧ Is K H v2 c ∧ Is K H v3 d ∧ Is K H v4 e := by
  cases h with | cons x t => obtain ⟨v1, v2, v3, v4, rfl, h1, h2, h3, h4⟩ := isAll4 t; exact ⟨_, _, _, _, _, rfl, x, h1, h2, h3, h4⟩
end
end Wb
/-! Comprehensions over data of a kind. -/
namespace Wb
open PySem PySem.Spec L2
section
variable {X : Cx} {e a b iter tg elt : Expr} {σ : L2.St} {H B : Hp} {pos p : Pos} {xs : List D} {Dn : Ends} {α : Type} {l : List α} {E : α → D}
theorem map_get {i : Nat} {d : D} (h : (l.map E)[i]? = some d) : ∃ x, l[i]? = some x ∧ d = E x := by
  rw [List.getElem?_map] at h
  cases q : l[i]? with
  | none => rw [q] at h; cases h
  | some x => rw [q] at h; cases h; exact ⟨x, rfl, rfl⟩
theorem lc_read {scope : Scope} {vs : List Nat} {g : TG} {tt : TT} (q : α → Bool) (f : α → D) (hi : EvI X σ H tg iter (l.map E)) (hz : l.length ≤ 100000) (hm : GMono g)
    (hs : ∀ d ∈ l, ∀ v H1, Ext H H1 → Is X.K H1 v (E d) → g v (wipe σ vs) H1 fun σ2 H2 => H2 = H1 ∧ wipe σ2 vs = wipe σ vs ∧
      (∀ R : Bool → Hp → Prop, (∀ H3, Ext H1 H3 → R (q d) H3) → tt σ2 H1 R) ∧ (q d = true → ∀ s H' C cl fp, Ev (Bk X scope s H' C cl fp) σ2 H1 elt (f d)))
    (hn : ∀ d ∈ l, q d = true → noLst (f d) = true) {H1 : Hp} (e1 : Ext H H1) {Q : VK} (k : ∀ v H2, Ext H1 H2 → Is X.K H2 v (.lst ((l.filter q).map f)) → Q v H2) : tLc (WI X tg iter) g tt (bkE X scope elt) vs σ H1 Q := by
  refine hi H1 e1 _ fun J Hb e2 y Dl hD => lc_run (g := g) (tt := tt) (te := bkE X scope elt) (vs := vs) (σ := σ) (Q := Q) y (fun i H' => Ext Hb H' ∧ ∃ acc, H' Dl = some (.lst acc) ∧ IsAll X.K H' acc (((l.take i).filter q).map f)) (fun i H' p => p.1) ⟨Ext.new hD, [], upd_same, by simp; exact .nil⟩ ?_ ?_
  · intro i d0 v H3 H4 hd0 ⟨p1, acc, p2, p3⟩ e3 hv
    obtain ⟨d, hd, rfl⟩ := map_get hd0
    have hmem : d ∈ l := List.mem_of_getElem? hd
    have e4 : Ext Hb H4 := p1.trans e3
    have htk : l.take (i + 1) = l.take i ++ [d] := by
      obtain ⟨hl, he⟩ := List.getElem?_eq_some_iff.mp hd
      rw [List.take_succ_eq_append_getElem hl, he]
    refine hm v _ H4 _ _ (fun σ2 H2 ⟨q1, q2, q3, q4⟩ => ?_) (hs d hmem v H4 ((e1.trans e2).trans e4) hv)
    subst q1
    refine ⟨q2, q3 _ fun H5 e5 => ?_⟩
    cases hq : q d with
    | true =>
      refine iteT fun s H' C cl fp => q4 hq s H' C cl fp H5 e5 _ fun z H6 e6 hz' => ?_
      have p4 := p3.mono (e3.trans (e5.trans e6))
      have hD6 : H6 Dl = some (.lst acc) := e6 _ _ (e5 _ _ (e3 _ _ p2))
      have hlen : acc.length ≤ l.length := by
        rw [p3.length, List.length_map]
        exact Nat.le_trans (List.length_filter_le ..) (by rw [List.length_take]; omega)
      refine ⟨acc, hD6, Nat.lt_of_le_of_lt hlen (Nat.lt_of_le_of_lt hz (by decide)), (e4.trans (e5.trans e6)).mut hD, acc ++ [z], upd_same, ?_⟩
      have kp : ExtN H6 (upd H6 Dl (.lst (acc ++ [z]))) := (Ext.refl H6).n.upd hD6
      rw [htk, List.filter_append, List.map_append]
      refine IsAll.append (p4.keep kp (noLsts_all fun w hw => ?_)) ?_
      · obtain ⟨d', h1, rfl⟩ := List.mem_map.mp hw
        obtain ⟨h2, h3⟩ := List.mem_filter.mp h1
        exact hn d' (List.mem_of_mem_take h2) h3
      · rw [List.filter_cons, if_pos hq]
        exact .cons (hz'.keep kp (hn d hmem hq)) .nil
    | false =>
      refine iteF ⟨e4.trans e5, acc, e5 _ _ (e3 _ _ p2), ?_⟩
      rw [htk, List.filter_append, List.map_append, List.filter_cons, if_neg (by rw [hq]; decide)]
      simpa using p3.mono (e3.trans e5)
  · intro H' ⟨p1, acc, p2, p3⟩
    rw [List.length_map, List.take_length] at p3
    exact k _ H' (e2.trans p1) (.lst p2 p3)
theorem ev_lcA {scope : Scope} {own : List (Str × Nat)} {g : TG} {ifs : List Expr} {tt : TT} (q : α → Bool) (f : α → D) (hc : X.calm = true) (hN : X.N.Nodup) (ok : BlkOk X.N X.env.scope scope own) (hi : EvI X σ H tg iter (l.map E)) (hz : l.length ≤ 100000)
    (hg : ∀ s H C cl fp, PG (Bk X scope s H C cl fp) tg g) (htt : ∀ s H C cl fp, PTs (Bk X scope s H C cl fp) ifs tt) (hm : GMono g)
    (hs : ∀ d ∈ l, ∀ v H1, Ext H H1 → Is X.K H1 v (E d) → g v (wipe σ (own.map (·.2))) H1 fun σ2 H2 => H2 = H1 ∧ wipe σ2 (own.map (·.2)) = wipe σ (own.map (·.2)) ∧
      (∀ R : Bool → Hp → Prop, (∀ H3, Ext H1 H3 → R (q d) H3) → tt σ2 H1 R) ∧ (q d = true → ∀ s H' C cl fp, Ev (Bk X scope s H' C cl fp) σ2 H1 elt (f d)))
    (hn : ∀ d ∈ l, q d = true → noLst (f d) = true) (hf : ∀ x, foldedSetIterable iter X.env x = pure x) :
    Ev X σ H (.ListComp elt [⟨tg, iter, ifs, 0⟩] scope pos) (.lst ((l.filter q).map f)) := fun H1 e1 Q k =>
  WE.of (pe_lc hc hN WI.pi ok hg htt (te := bkE X scope elt) (fun s H C cl fp => ⟨fun pins s' σ H Q I h => (h _ _ _ _ _).run pins s' I⟩) hf) (lc_read q f hi hz hm hs hn e1 k)
/-- y = [..], y a local -/
theorem ws_lcA {scope : Scope} {own : List (Str × Nat)} {g : TG} {ifs : List Expr} {tt : TT} {i : Nat} {y : Str} {py spos : Pos} (q : α → Bool) (f : α → D) (hc : X.calm = true) (hN : X.N.Nodup) (hy : X.N[i]? = some y) (hyl : X.env.scope.names.lookup y = some .local) (hk : X.env.scope.kind = .function) (hli : (py.line == pos.line) = true)
    (hsc : (scope.names.any fun (n, k) => n == y && (k == .local || k == .cell)) = false) (ok : BlkOk X.N X.env.scope scope own) (hi : EvI X σ H tg iter (l.map E)) (hz : l.length ≤ 100000)
    (hg : ∀ s H C cl fp, PG (Bk X scope s H C cl fp) tg g) (htt : ∀ s H C cl fp, PTs (Bk X scope s H C cl fp) ifs tt) (hm : GMono g)
    (hs : ∀ d ∈ l, ∀ v H1, Ext H H1 → Is X.K H1 v (E d) → g v (wipe σ (own.map (·.2))) H1 fun σ2 H2 => H2 = H1 ∧ wipe σ2 (own.map (·.2)) = wipe σ (own.map (·.2)) ∧
      (∀ R : Bool → Hp → Prop, (∀ H3, Ext H1 H3 → R (q d) H3) → tt σ2 H1 R) ∧ (q d = true → ∀ s H' C cl fp, Ev (Bk X scope s H' C cl fp) σ2 H1 elt (f d)))
    (hn : ∀ d ∈ l, q d = true → noLst (f d) = true) (hf : ∀ x, foldedSetIterable iter X.env x = pure x)
    (k : ∀ v H1, Ext H H1 → Is X.K H1 v (.lst ((l.filter q).map f)) → Dn.nx (σ.set i (some v)) H1) : WS X (.Assign [.Name y py] (.ListComp elt [⟨tg, iter, ifs, 0⟩] scope pos) spos) Dn σ H :=
  WS.of (ps_setLc hc hN hy hyl (sw_true hk hyl hli hsc) WI.pi ok hg htt (te := bkE X scope elt) (fun s H C cl fp => ⟨fun pins s' σ H Q I h => (h _ _ _ _ _).run pins s' I⟩) hf) (lc_read q f hi hz hm hs hn (Ext.refl _) fun v H2 e2 hv => k v H2 e2 hv)
theorem ws_lcT {scope : Scope} {own : List (Str × Nat)} {g : TG} {test : Expr} (i : Nat) {y : Str} {py spos : Pos} (q : α → Bool) (f : α → D) (hN : X.N.Nodup) (ok : BlkOk X.N X.env.scope scope own) (hi : EvI X σ H tg iter (l.map E)) (hz : l.length ≤ 100000)
    (hg : ∀ s H C cl fp, PG (Bk X scope s H C cl fp) tg g) (hm : GMono g)
    (hs : ∀ d ∈ l, ∀ v H1, Ext H H1 → Is X.K H1 v (E d) → g v (wipe σ (own.map (·.2))) H1 fun σ2 H2 => H2 = H1 ∧ wipe σ2 (own.map (·.2)) = wipe σ (own.map (·.2)) ∧
      (∀ s H' C cl fp, EvT (Bk X scope s H' C cl fp) σ2 H1 test (q d)) ∧ (q d = true → ∀ s H' C cl fp, Ev (Bk X scope s H' C cl fp) σ2 H1 elt (f d)))
    (hn : ∀ d ∈ l, q d = true → noLst (f d) = true)
    (k : ∀ v H1, Ext H H1 → Is X.K H1 v (.lst ((l.filter q).map f)) → Dn.nx (σ.set i (some v)) H1) (hc : X.calm = true := by rfl) (hy : X.N[i]? = some y := by rfl) (hyl : X.env.scope.names.lookup y = some .local := by rfl) (hk : X.env.scope.kind = .function := by rfl) (hli : (py.line == pos.line) = true := by rfl)
    (hsc : (scope.names.any fun (n, k) => n == y && (k == .local || k == .cell)) = false := by decide +kernel) (hf : ∀ x, foldedSetIterable iter X.env x = pure x := by intro _; rfl) : WS X (.Assign [.Name y py] (.ListComp elt [⟨tg, iter, [test], 0⟩] scope pos) spos) Dn σ H :=
  ws_lcA (tt := bkT X scope test) q f hc hN hy hyl hk hli hsc ok hi hz hg (fun s H C cl fp => pts_one ⟨fun pins s' σ H Q I h => (h _ _ _ _ _).run pins s' I⟩) hm
    (fun d hd v H1 e1 hv => hm _ _ _ _ _ (fun σ2 H2 ⟨q1, q2, q3, q4⟩ => ⟨q1, q2, fun R hR s H' C cl fp => q3 s H' C cl fp H1 (Ext.refl _) R hR, q4⟩) (hs d hd v H1 e1 hv)) hn hf k
theorem ws_lcN {scope : Scope} {own : List (Str × Nat)} {g : TG} (i : Nat) {y : Str} {py spos : Pos} (f : α → D) (hN : X.N.Nodup) (ok : BlkOk X.N X.env.scope scope own) (hi : EvI X σ H tg iter (l.map E)) (hz : l.length ≤ 100000)
    (hg : ∀ s H C cl fp, PG (Bk X scope s H C cl fp) tg g) (hm : GMono g)
    (hs : ∀ d ∈ l, ∀ v H1, Ext H H1 → Is X.K H1 v (E d) → g v (wipe σ (own.map (·.2))) H1 fun σ2 H2 => H2 = H1 ∧ wipe σ2 (own.map (·.2)) = wipe σ (own.map (·.2)) ∧
      (∀ s H' C cl fp, Ev (Bk X scope s H' C cl fp) σ2 H1 elt (f d)))
    (hn : ∀ d ∈ l, noLst (f d) = true)
    (k : ∀ v H1, Ext H H1 → Is X.K H1 v (.lst (l.map f)) → Dn.nx (σ.set i (some v)) H1) (hc : X.calm = true := by rfl) (hy : X.N[i]? = some y := by rfl) (hyl : X.env.scope.names.lookup y = some .local := by rfl) (hk : X.env.scope.kind = .function := by rfl) (hli : (py.line == pos.line) = true := by rfl)
    (hsc : (scope.names.any fun (n, k) => n == y && (k == .local || k == .cell)) = false := by decide +kernel) (hf : ∀ x, foldedSetIterable iter X.env x = pure x := by intro _; rfl) : WS X (.Assign [.Name y py] (.ListComp elt [⟨tg, iter, [], 0⟩] scope pos) spos) Dn σ H :=
  ws_lcA (tt := tYes) (fun _ => true) f hc hN hy hyl hk hli hsc ok hi hz hg (fun s H C cl fp => pts_nil) hm
    (fun d hd v H1 e1 hv => hm _ _ _ _ _ (fun σ2 H2 ⟨q1, q2, q3⟩ => ⟨q1, q2, fun R hR => hR H1 (Ext.refl _), fun _ => q3⟩) (hs d hd v H1 e1 hv)) (fun d hd _ => hn d hd) hf
    (fun v H1 e1 hv => k v H1 e1 (by rwa [List.filter_eq_self.mpr (fun _ _ => rfl)] at hv))
/-- [elt for tg in iter if test], the items E of l -/
theorem ev_lcT {scope : Scope} {own : List (Str × Nat)} {g : TG} {test : Expr} (q : α → Bool) (f : α → D) (hc : X.calm = true) (hN : X.N.Nodup) (ok : BlkOk X.N X.env.scope scope own) (hi : EvI X σ H tg iter (l.map E)) (hz : l.length ≤ 100000)
    (hg : ∀ s H C cl fp, PG (Bk X scope s H C cl fp) tg g) (hm : GMono g)
    (hs : ∀ d ∈ l, ∀ v H1, Ext H H1 → Is X.K H1 v (E d) → g v (wipe σ (own.map (·.2))) H1 fun σ2 H2 => H2 = H1 ∧ wipe σ2 (own.map (·.2)) = wipe σ (own.map (·.2)) ∧
      (∀ s H' C cl fp, EvT (Bk X scope s H' C cl fp) σ2 H1 test (q d)) ∧ (q d = true → ∀ s H' C cl fp, Ev (Bk X scope s H' C cl fp) σ2 H1 elt (f d)))
    (hn : ∀ d ∈ l, q d = true → noLst (f d) = true) (hf : ∀ x, foldedSetIterable iter X.env x = pure x := by intro _; rfl) :
    Ev X σ H (.ListComp elt [⟨tg, iter, [test], 0⟩] scope pos) (.lst ((l.filter q).map f)) :=
  ev_lcA (tt := bkT X scope test) q f hc hN ok hi hz hg (fun s H C cl fp => pts_one ⟨fun pins s' σ H Q I h => (h _ _ _ _ _).run pins s' I⟩) hm
    (fun d hd v H1 e1 hv => hm _ _ _ _ _ (fun σ2 H2 ⟨q1, q2, q3, q4⟩ => ⟨q1, q2, fun R hR s H' C cl fp => q3 s H' C cl fp H1 (Ext.refl _) R hR, q4⟩) (hs d hd v H1 e1 hv)) hn hf
/-- [elt for tg in iter], the items E of l -/
theorem ev_lcN {scope : Scope} {own : List (Str × Nat)} {g : TG} (f : α → D) (hc : X.calm = true) (hN : X.N.Nodup) (ok : BlkOk X.N X.env.scope scope own) (hi : EvI X σ H tg iter (l.map E)) (hz : l.length ≤ 100000)
    (hg : ∀ s H C cl fp, PG (Bk X scope s H C cl fp) tg g) (hm : GMono g)
    (hs : ∀ d ∈ l, ∀ v H1, Ext H H1 → Is X.K H1 v (E d) → g v (wipe σ (own.map (·.2))) H1 fun σ2 H2 => H2 = H1 ∧ wipe σ2 (own.map (·.2)) = wipe σ (own.map (·.2)) ∧
      (∀ s H' C cl fp, Ev (Bk X scope s H' C cl fp) σ2 H1 elt (f d)))
    (hn : ∀ d ∈ l, noLst (f d) = true) (hf : ∀ x, foldedSetIterable iter X.env x = pure x := by intro _; rfl) :
    Ev X σ H (.ListComp elt [⟨tg, iter, [], 0⟩] scope pos) (.lst (l.map f)) := by
  have h := ev_lcA (X := X) (σ := σ) (H := H) (elt := elt) (pos := pos) (E := E) (tt := tYes) (fun _ => true) f hc hN ok hi hz hg (fun s H C cl fp => pts_nil) hm
    (fun d hd v H1 e1 hv => hm _ _ _ _ _ (fun σ2 H2 ⟨q1, q2, q3⟩ => ⟨q1, q2, fun R hR => hR H1 (Ext.refl _), fun _ => q3⟩) (hs d hd v H1 e1 hv)) (fun d hd _ => hn d hd) hf
  rwa [List.filter_eq_self.mpr (fun _ _ => rfl)] at h
theorem enumD_range {n : Nat} {G : Nat → D} : enumD ((List.range n).map G) = (List.range n).map fun t : Nat => .tup [.int (t : Int), G t] := by
  refine List.ext_getElem? fun i => ?_
  unfold enumD
  rw [List.getElem?_map, List.getElem?_zipIdx, List.getElem?_map, List.getElem?_map]
  by_cases h : i < n
  · rw [List.getElem?_eq_getElem (by simpa using h)]; simp
  · rw [List.getElem?_eq_none (by simpa using Nat.le_of_not_lt h)]; rfl
theorem evi_enumT {elts : List Expr} {kk : Nat} {tpos : Pos} (hm : X.mg "enumerate" = none) (h : Ev X σ H a (.tup xs)) (hg : Gl X "enumerate" := by rfl) (hs : noStar a = true := by rfl) : EvI X σ H (.Tuple elts kk tpos) (.Call (.Name "enumerate" p) [a] [] pos) (enumD xs) :=
  fun H1 e1 R q => WI.of (pi_enumT hg hm (pa_cons WE.pe pa_nil (star_cons hs)) (by rw [star_cons hs]; rfl)) (h H1 e1 _ fun v H2 e2 hv => by
    have hv2 := hv
    cases hv with
    | @tup a vs _ hs ha => exact ⟨a, vs, rfl, hs, q _ H2 e2 (yl_enumT hv2)⟩)
theorem evi_enumL {elts : List Expr} {kk : Nat} {tpos : Pos} (hm : X.mg "enumerate" = none) (h : Ev X σ H a (.lst xs)) (hg : Gl X "enumerate" := by rfl) (hs : noStar a = true := by rfl) : EvI X σ H (.Tuple elts kk tpos) (.Call (.Name "enumerate" p) [a] [] pos) (enumD xs) :=
  fun H1 e1 R q => WI.of (pi_enum hg hm (pa_cons WE.pe pa_nil (star_cons hs)) (by rw [star_cons hs]; rfl)) (h H1 e1 _ fun v H2 e2 hv => by
    have hv2 := hv
    cases hv with
    | @lst a vs _ hs ha => exact ⟨a, vs, rfl, .of hs, q _ H2 e2 (yl_enum hv2)⟩)
theorem EvIB.f (h : ∀ B, EvIB X σ H B tg iter xs) : EvI X σ H tg iter xs := fun H1 e1 R q => h H H1 e1 R fun J H2 e2 y => q J H2 e2 (y.mono (e1.trans e2))
/-- a target of two names -/
theorem gTup2 {K : PySem.W.Frag} {i j : Nat} {v : V} {d1 d2 : D} {H : Hp} {Q : L2.St → Hp → Prop} (h : Is K H v (.tup [d1, d2])) (k : ∀ v1 v2, Is K H v1 d1 → Is K H v2 d2 → Q ((σ.set i (some v1)).set j (some v2)) H) : gTup K 2 (gCons (gName i) (gCons (gName j) gNil)) v σ H Q := by
  cases h with
  | @tup a xs _ hs ha =>
    obtain ⟨v1, v2, rfl, h1, h2⟩ := isAll2 ha
    exact ⟨a, _, rfl, hs, rfl, v1, [v2], rfl, v2, [], rfl, rfl, k v1 v2 h1 h2⟩
theorem gTup3 {K : PySem.W.Frag} {i j l : Nat} {v : V} {d1 d2 d3 : D} {H : Hp} {Q : L2.St → Hp → Prop} (h : Is K H v (.tup [d1, d2, d3])) (k : ∀ v1 v2 v3, Is K H v1 d1 → Is K H v2 d2 → Is K H v3 d3 → Q (((σ.set i (some v1)).set j (some v2)).set l (some v3)) H) : gTup K 3 (gCons (gName i) (gCons (gName j) (gCons (gName l) gNil))) v σ H Q := by
  cases h with
  | @tup a xs _ hs ha =>
    obtain ⟨v1, v2, v3, rfl, h1, h2, h3⟩ := isAll3 ha
    exact ⟨a, _, rfl, hs, rfl, v1, [v2, v3], rfl, v2, [v3], rfl, v3, [], rfl, rfl, k v1 v2 v3 h1 h2 h3⟩
theorem gTup4 {K : PySem.W.Frag} {i j l m : Nat} {v : V} {d1 d2 d3 d4 : D} {H : Hp} {Q : L2.St → Hp → Prop} (h : Is K H v (.tup [d1, d2, d3, d4])) (k : ∀ v1 v2 v3 v4, Is K H v1 d1 → Is K H v2 d2 → Is K H v3 d3 → Is K H v4 d4 → Q ((((σ.set i (some v1)).set j (some v2)).set l (some v3)).set m (some v4)) H) : gTup K 4 (gCons (gName i) (gCons (gName j) (gCons (gName l) (gCons (gName m) gNil)))) v σ H Q := by
  cases h with
  | @tup a xs _ hs ha =>
    obtain ⟨v1, v2, v3, v4, rfl, h1, h2, h3, h4⟩ := isAll4 ha
    exact ⟨a, _, rfl, hs, rfl, v1, [v2, v3, v4], rfl, v2, [v3, v4], rfl, v3, [v4], rfl, v4, [], rfl, rfl, k v1 v2 v3 v4 h1 h2 h3 h4⟩
end
section
variable {X : Cx} {pos p1 p2 p3 p4 : Pos} {k : Nat} {x y z u : Str}
theorem pgn (i : Nat) (hN : X.N.Nodup) (hi : X.N[i]? = some x := by rfl) (hx : Loc X.env.scope x := by first | exact .inl rfl | exact .inr rfl) (hf : X.fn x = true ∨ X.env.scope.names.lookup x = some .local := by first | exact .inl rfl | exact .inr rfl) : PG X (.Name x pos) (gName i) := pg_name hN hi hx hf
theorem pg2 (i j : Nat) (hc : X.calm = true) (hN : X.N.Nodup) (hi : X.N[i]? = some x := by rfl) (hj : X.N[j]? = some y := by rfl) (hx : Loc X.env.scope x := by first | exact .inl rfl | exact .inr rfl) (hy : Loc X.env.scope y := by first | exact .inl rfl | exact .inr rfl)
    (hf : X.fn x = true ∨ X.env.scope.names.lookup x = some .local := by first | exact .inl rfl | exact .inr rfl) (hf2 : X.fn y = true ∨ X.env.scope.names.lookup y = some .local := by first | exact .inl rfl | exact .inr rfl) :
    PG X (.Tuple [.Name x p1, .Name y p2] k pos) (gTup X.K 2 (gCons (gName i) (gCons (gName j) gNil))) :=
  pg_tup hc (pgs_cons (pg_name hN hi hx hf) (pgs_cons (pg_name hN hj hy hf2) pgs_nil))
theorem pg3 (i j l : Nat) (hc : X.calm = true) (hN : X.N.Nodup) (hi : X.N[i]? = some x := by rfl) (hj : X.N[j]? = some y := by rfl) (hl : X.N[l]? = some z := by rfl) (hx : Loc X.env.scope x := by first | exact .inl rfl | exact .inr rfl) (hy : Loc X.env.scope y := by first | exact .inl rfl | exact .inr rfl) (hz : Loc X.env.scope z := by first | exact .inl rfl | exact .inr rfl)
    (hf : X.fn x = true ∨ X.env.scope.names.lookup x = some .local := by first | exact .inl rfl | exact .inr rfl) (hf2 : X.fn y = true ∨ X.env.scope.names.lookup y = some .local := by first | exact .inl rfl | exact .inr rfl) (hf3 : X.fn z = true ∨ X.env.scope.names.lookup z = some .local := by first | exact .inl rfl | exact .inr rfl) :
    PG X (.Tuple [.Name x p1, .Name y p2, .Name z p3] k pos) (gTup X.K 3 (gCons (gName i) (gCons (gName j) (gCons (gName l) gNil)))) :=
  pg_tup hc (pgs_cons (pg_name hN hi hx hf) (pgs_cons (pg_name hN hj hy hf2) (pgs_cons (pg_name hN hl hz hf3) pgs_nil)))
theorem pg4 (i j l m : Nat) (hc : X.calm = true) (hN : X.N.Nodup) (hi : X.N[i]? = some x := by rfl) (hj : X.N[j]? = some y := by rfl) (hl : X.N[l]? = some z := by rfl) (hm : X.N[m]? = some u := by rfl) (hx : Loc X.env.scope x := by first | exact .inl rfl | exact .inr rfl) (hy : Loc X.env.scope y := by first | exact .inl rfl | exact .inr rfl) (hz : Loc X.env.scope z := by first | exact .inl rfl | exact .inr rfl) (hu : Loc X.env.scope u := by first | exact .inl rfl | exact .inr rfl)
    (hf : X.fn x = true ∨ X.env.scope.names.lookup x = some .local := by first | exact .inl rfl | exact .inr rfl) (hf2 : X.fn y = true ∨ X.env.scope.names.lookup y = some .local := by first | exact .inl rfl | exact .inr rfl) (hf3 : X.fn z = true ∨ X.env.scope.names.lookup z = some .local := by first | exact .inl rfl | exact .inr rfl) (hf4 : X.fn u = true ∨ X.env.scope.names.lookup u = some .local := by first | exact .inl rfl | exact .inr rfl) :
    PG X (.Tuple [.Name x p1, .Name y p2, .Name z p3, .Name u p4] k pos) (gTup X.K 4 (gCons (gName i) (gCons (gName j) (gCons (gName l) (gCons (gName m) gNil))))) :=
  pg_tup hc (pgs_cons (pg_name hN hi hx hf) (pgs_cons (pg_name hN hj hy hf2) (pgs_cons (pg_name hN hl hz hf3) (pgs_cons (pg_name hN hm hu hf4) pgs_nil))))
theorem gm2 {K : PySem.W.Frag} {i j : Nat} : GMono (gTup K 2 (gCons (gName i) (gCons (gName j) gNil))) := gm_tup (gm_cons gm_name (gm_cons gm_name gm_nil))
theorem gm3 {K : PySem.W.Frag} {i j l : Nat} : GMono (gTup K 3 (gCons (gName i) (gCons (gName j) (gCons (gName l) gNil)))) := gm_tup (gm_cons gm_name (gm_cons gm_name (gm_cons gm_name gm_nil)))
theorem gm4 {K : PySem.W.Frag} {i j l m : Nat} : GMono (gTup K 4 (gCons (gName i) (gCons (gName j) (gCons (gName l) (gCons (gName m) gNil))))) := gm_tup (gm_cons gm_name (gm_cons gm_name (gm_cons gm_name (gm_cons gm_name gm_nil))))
end
end Wb
/-! The defs over marks and cards. -/
namespace Wb
open PySem PySem.Spec L2
section
variable {P : Program} {w : World} {K : PySem.W.Frag} {mg : Str → Option Value} {base : Heap}
section
variable {X : Cx} {σ : L2.St} {H : Hp} {pos p : Pos}
theorem ev_marks (T : Top X.w X.K X.mg) (hg : Gl X "MARKS" := by rfl) : Ev X σ H (.Name "MARKS" pos) (.tup (marksL.map .str)) :=
  fun H1 e1 Q q => WE.of (pe_glob (v := .ref (He.ga X.K "MARKS")) hg T.c_marks rfl (by decide)) (q _ H1 (Ext.refl _) (.tup (T.marks H1) (isAll_ofStrs marksL)))
theorem ev_ranks (T : Top X.w X.K X.mg) {a : Expr} {m : Wb.Mk} (h : Ev X σ H a (mkD m)) (hs : PlainIx a := by exact fun _ _ => rfl) (hg : Gl X "RANKS" := by rfl) : Ev X σ H (.Subscript (.Name "RANKS" p) a pos) (.int m.rank) :=
  fun H1 e1 Q q => WE.of (pe_ix ix_kdict (pe_glob (v := .ref (He.ga X.K "RANKS")) hg T.c_ranks rfl (by decide)) WE.pe hs) (h H1 e1 _ fun v H2 e2 hv => by
    cases hv
    exact ⟨_, _, _, rfl, rfl, T.ranks m, q _ H2 e2 (.int _)⟩)
end
theorem mem_marksL (a : Wb.Mk) : mkS a ∈ marksL := List.mem_map.mpr ⟨a, by cases a <;> decide, rfl⟩
theorem marksL_get (a : Wb.Mk) : marksL[a.pref]? = some (mkS a) := by cases a <;> rfl
theorem marksL_mk : marksL = allMk.map mkS := rfl
theorem pref_le (a : Wb.Mk) : a.pref < 5 := by cases a <;> decide
theorem allMk_get (a : Wb.Mk) : allMk[a.pref]? = some a := by cases a <;> rfl
theorem allMk_pref {i : Nat} {a : Wb.Mk} (h : allMk[i]? = some a) : a.pref = i := by
  match i, h with
  | 0, h => cases h; rfl
  | 1, h => cases h; rfl
  | 2, h => cases h; rfl
  | 3, h => cases h; rfl
  | 4, h => cases h; rfl
theorem bestL_first {l : List Wb.Mk} {a : Wb.Mk} (h : a ∈ l) (hb : ∀ b, b.pref < a.pref → b ∉ l) : bestL l = a := by
  have h1 := bestL_le h
  by_cases e : (bestL l).pref < a.pref
  · by_cases n : bestL l = .never
    · rw [n] at e; exact absurd (pref_le a) (by have : Wb.Mk.never.pref = 4 := rfl; omega)
    · exact absurd (bestL_mem n) (hb _ e)
  · exact pref_inj (by omega)
theorem bestL_none {l : List Wb.Mk} (h : ∀ a : Wb.Mk, a ∉ l) : bestL l = .never := by
  cases l with
  | nil => rfl
  | cons a l => exact absurd (.head _) (h a)
theorem isSome_mark {ds : List D} {i : Nat} {d : D} (h : (marksL.map D.str)[i]? = some d) : ∃ a : Wb.Mk, allMk[i]? = some a ∧ d = mkD a := by
  rw [marksL_mk, List.map_map, List.getElem?_map] at h
  cases q : allMk[i]? with
  | none => rw [q] at h; cases h
  | some a => rw [q] at h; cases h; exact ⟨a, rfl, rfl⟩
/-! is_mark, check_mark -/
def Rmark : List D → D → Prop := fun ds d => ∃ a, ds = [mkD a] ∧ d = .bl true
abbrev N_is_mark : List Str := ["value"]
theorem kp_is_mark (T : Top w K mg) : Kp P w K mg base "is_mark" ["value"] [] 1 (spD K Rmark) := by
  have hN : N_is_mark.Nodup := by decide +kernel
  refine kp_d (N := N_is_mark) T 20 rfl ⟨rfl, rfl, rfl, hN, rfl, by decide +kernel, by decide +kernel⟩ (fun _ _ _ _ _ _ us hl => match us, hl with | [_], _ => rfl) (fun ds d ⟨a, h, _⟩ => by rw [h]; rfl) ?_
  rintro cdv A outer s H vs ds d Q E hr hv ⟨a, rfl, rfl⟩ k
  obtain ⟨v0, rfl, h0⟩ := isAll1 hv
  refine wss_one (ws_ret ?_ k)
  refine ev_and (c := true) (d := true) (ev_isi T.f_isinstance T.f_str PyProof.Rows.boot_str (ev_v 0 h0) k_ss) fun _ => ?_
  exact ev_one (Ev.is (ev_inST (ev_v 0 h0) (ev_marks T)) (by rw [decide_eq_true (mem_marksL a)]))
def RcheckMark : List D → D → Prop := fun ds d => ∃ a, ds = [mkD a] ∧ d = .non
abbrev N_check_mark : List Str := ["value"]
theorem kp_check_mark (T : Top w K mg) : Kp P w K mg base "check_mark" ["value"] [] 2 (spD K RcheckMark) := by
  have hN : N_check_mark.Nodup := by decide +kernel
  refine kp_d (N := N_check_mark) T 21 rfl ⟨rfl, rfl, rfl, hN, rfl, by decide +kernel, by decide +kernel⟩ (fun _ _ _ _ _ _ us hl => match us, hl with | [_], _ => rfl) (fun ds d ⟨a, h, _⟩ => by rw [h]; rfl) ?_
  rintro cdv A outer s H vs ds d Q E hr hv ⟨a, rfl, rfl⟩ k
  obtain ⟨v0, rfl, h0⟩ := isAll1 hv
  exact wss_one (ws_skip (evt_not (c := true) (evt_val (ev_call (kp_is_mark T) hr (eva_cons (ev_v 0 h0) eva_nil) ⟨a, rfl, rfl⟩))) fun H1 e1 => k _ H1 e1 .non)
/-! later -/
def Rlater : List D → D → Prop := fun ds d => ∃ a b, ds = [mkD a, mkD b] ∧ d = mkD (later a b)
abbrev N_later : List Str := ["one", "other"]
theorem kp_later (T : Top w K mg) : Kp P w K mg base "later" ["one", "other"] [] 1 (spD K Rlater) := by
  have hN : N_later.Nodup := by decide +kernel
  refine kp_d (N := N_later) T 22 rfl ⟨rfl, rfl, rfl, hN, rfl, by decide +kernel, by decide +kernel⟩ (fun _ _ _ _ _ _ us hl => match us, hl with | [_, _], _ => rfl) (fun ds d ⟨a, b, h, _⟩ => by rw [h]; rfl) ?_
  rintro cdv A outer s H vs ds d Q E hr hv ⟨a, b, rfl, rfl⟩ k
  obtain ⟨v0, v1, rfl, h0, h1⟩ := isAll2 hv
  refine wss_one (ws_ret ?_ k)
  refine ev_ifExp (c := decide (b.rank ≤ a.rank)) (EvT.is (evt_ge (ev_ranks T (ev_v 0 h0)) (ev_ranks T (ev_v 1 h1))) (by simp)) (fun c => Ev.is (ev_v 0 h0) ?_) (fun c => Ev.is (ev_v 1 h1) ?_)
  · rw [later, if_pos (of_decide_eq_true c)]
  · rw [later, if_neg (of_decide_eq_false c)]
/-! best_of -/
def Rbest : List D → D → Prop := fun ds d => ∃ l : List Wb.Mk, ds = [.lst (l.map mkD)] ∧ d = mkD (bestL l)
theorem map_mkD (l : List Wb.Mk) : l.map mkD = (l.map mkS).map D.str := by rw [List.map_map]; rfl
abbrev N_best_of : List Str := ["marks", "mark"]
theorem kp_best_of (T : Top w K mg) : Kp P w K mg base "best_of" ["marks"] [] 1 (spD K Rbest) := by
  have hN : N_best_of.Nodup := by decide +kernel
  refine kp_d (N := N_best_of) T 23 rfl ⟨rfl, rfl, rfl, hN, rfl, by decide +kernel, by decide +kernel⟩ (fun _ _ _ _ _ _ us hl => match us, hl with | [_], _ => rfl) (fun ds d ⟨l, h, _⟩ => by rw [h]; rfl) ?_
  rintro cdv A outer s H vs ds d Q E hr hv ⟨l, rfl, rfl⟩ k
  obtain ⟨v0, rfl, h0⟩ := isAll1 hv
  rw [map_mkD] at h0
  refine wss_cons (ws_for PassesOwn.never rfl (B := H) (xs := marksL.map D.str) (evi_tup (fun H1 e1 Q q => WE.of (pe_glob (v := .ref (He.ga K "MARKS")) rfl T.c_marks rfl (by decide)) (q _ H1 (Ext.refl _) (.tup (T.marks H) (isAll_ofStrs marksL)))) (Ext.refl _)) (pg_name (i := 1) hN rfl (.inl rfl))
    (fun i σ' H' => Ext H H' ∧ (∃ v1, σ' = [some v0, v1]) ∧ ∀ b : Wb.Mk, b.pref < i → b ∉ l) (fun i σ' H' h => h.1) (fun H2 e2 => ⟨e2, ⟨_, rfl⟩, fun b hb => absurd hb (Nat.not_lt_zero _)⟩) ?_ ?_)
  · rintro i d σ' H' v H'' hd ⟨e3, ⟨v1, rfl⟩, hb⟩ e4 hv
    obtain ⟨a, ha, rfl⟩ := isSome_mark (ds := []) hd
    have ea := allMk_pref ha
    have h1' := (h0.mono e3).mono e4
    refine wss_one (ws_if (c := decide (a ∈ l)) (EvT.is (evt_inSL (ev_v 1 hv) (ev_v 0 h1')) mem_mkS) (fun c H5 e5 => ?_) (fun c H5 e5 => ?_))
    · refine wss_one (ws_ret (Ev.is (ev_v 1 (hv.mono e5)) ?_) fun v H6 e6 hv => k v H6 (((e3.trans e4).trans e5).trans e6) hv)
      rw [bestL_first (of_decide_eq_true c) fun b q => hb b (by omega)]
    · refine wss_nil ⟨(e3.trans e4).trans e5, ⟨_, rfl⟩, fun b hb' => ?_⟩
      by_cases e : b.pref = i
      · have : b = a := pref_inj (by omega)
        subst this
        exact of_decide_eq_false c
      · exact hb b (by omega)
  · rintro σ' H' ⟨e3, ⟨v1, rfl⟩, hb⟩
    refine wss_one (ws_ret (Ev.is ev_str ?_) fun v H6 e6 hv => k v H6 (e3.trans e6) hv)
    rw [bestL_none fun a => hb a (pref_le a)]
    rfl
/-! effect_mark -/
def Eff.mk : Eff → Wb.Mk
  | .fill _ _ => .full
  | .coins a => if a = 0 then .free else .some
def Reff : List D → D → Prop := fun ds d => ∃ e : Eff, ds = [e.d] ∧ d = mkD e.mk
abbrev N_effect_mark : List Str := ["effect"]
theorem kp_effect_mark (T : Top w K mg) : Kp P w K mg base "effect_mark" ["effect"] [] 1 (spD K Reff) := by
  have hN : N_effect_mark.Nodup := by decide +kernel
  refine kp_d (N := N_effect_mark) T 25 rfl ⟨rfl, rfl, rfl, hN, rfl, by decide +kernel, by decide +kernel⟩ (fun _ _ _ _ _ _ us hl => match us, hl with | [_], _ => rfl) (fun ds d ⟨e, h, _⟩ => by rw [h]; rfl) ?_
  rintro cdv A outer s H vs ds d Q E hr hv ⟨e, rfl, rfl⟩ k
  obtain ⟨v0, rfl, h0⟩ := isAll1 hv
  cases e with
  | fill a b =>
    have h0 : Is K H v0 (.tup [.str "fill", .int a, .int b]) := h0
    exact wss_cons (ws_if (c := true) (EvT.is (evt_eqS (ev_ixTc 0 rfl (ev_v 0 h0)) ev_str) (decide_eq_true rfl)) (fun _ H1 e1 => wss_one (ws_ret ev_str fun v H2 e2 hv => k v H2 (e1.trans e2) hv)) fun q => by cases q)
  | coins a =>
    have h0 : Is K H v0 (.tup [.str "coins", .int a]) := h0
    refine wss_cons (ws_skip (EvT.is (evt_eqS (ev_ixTc 0 rfl (ev_v 0 h0)) ev_str) (by decide +kernel)) fun H1 e1 => wss_one (ws_ret ?_ fun v H2 e2 hv => k v H2 (e1.trans e2) hv))
    refine ev_ifExp (c := decide (a = 0)) (EvT.is (evt_eqI (ev_ixTc 1 rfl (ev_v 0 (h0.mono e1))) ev_int) (by simp)) (fun c => Ev.is ev_str ?_) (fun c => Ev.is ev_str ?_)
    · rw [Eff.mk, if_pos (of_decide_eq_true c)]; rfl
    · rw [Eff.mk, if_neg (of_decide_eq_false c)]; rfl
/-! fits -/
def Rfits : List D → D → Prop := fun ds d => ∃ n f, n ≤ 1000 ∧ ds = [.int (n : Nat), cardD n f] ∧ d = .bl true
theorem len_rowD {n : Nat} {F : Nat → Wb.Mk} : ((List.range n).map fun j => mkD (F j)).length = n := by simp
theorem len_cardD {n : Nat} {f : Crd} : ((List.range n).map fun i => rowD n (f i)).length = n := by simp
abbrev N_fits : List Str := ["many", "value", "row", "mark"]
theorem kp_fits (T : Top w K mg) : Kp P w K mg base "fits" ["many", "value"] [] 2 (spD K Rfits) := by
  have hN : N_fits.Nodup := by decide +kernel
  refine kp_d (N := N_fits) T 26 rfl ⟨rfl, rfl, rfl, hN, rfl, by decide +kernel, by decide +kernel⟩ (fun _ _ _ _ _ _ us hl => match us, hl with | [_, _], _ => rfl) (fun ds d ⟨n, f, _, h, _⟩ => by rw [h]; rfl) ?_
  rintro cdv A outer s H vs ds d Q E hr hv ⟨n, f, hn, rfl, rfl⟩ k
  obtain ⟨v0, v1, rfl, h0, h1⟩ := isAll2 hv
  refine wss_cons (ws_skip (EvW.t ?_) fun H1 e1 => ?_)
  · refine EvW.is (evw_or (c := false) (d := false) (evt_not (c := true) (evt_val (ev_isi T.f_isinstance T.f_tuple PyProof.Rows.boot_tuple (ev_v 1 h1) k_tt))) fun _ => ?_) rfl
    refine evw_or1 (EvT.is (evt_neI (ev_lenT T.f_len (ev_v 1 h1)) (ev_v 0 h0)) ?_)
    rw [len_cardD, decide_eq_true rfl]; rfl
  · refine wss_cons (ws_for PassesOwn.never rfl (B := H) (xs := (List.range n).map fun i => rowD n (f i)) (evi_tup (evb_v 1 h1) e1) (pgn 2 hN) (fun i σ' H' => Ext H H' ∧ ∃ x y, σ' = [some v0, some v1, x, y]) (fun i σ' H' h => h.1) (fun H2 e2 => ⟨e1.trans e2, _, _, rfl⟩) ?_ ?_)
    · rintro i d σ' H' v H'' hd ⟨e3, x, y, rfl⟩ e4 hv
      obtain ⟨t, -, rfl⟩ := map_get hd
      refine wss_one (ws_skip (EvW.t ?_) fun H5 e5 => ⟨e3.trans (e4.trans e5), _, _, rfl⟩)
      refine EvW.is (evw_or (c := false) (d := false) (evt_not (c := true) (evt_val (ev_isi T.f_isinstance T.f_tuple PyProof.Rows.boot_tuple (ev_v 2 hv) k_tt))) fun _ => ?_) rfl
      refine EvW.is (evw_or (c := false) (d := false) (EvT.is (evt_neI (ev_lenT T.f_len (ev_v 2 hv)) (ev_v 0 (h0.mono (e3.trans e4)))) ?_) fun _ => ?_) rfl
      · rw [len_rowD, decide_eq_true rfl]; rfl
      refine evw_or1 (EvT.is (evt_not (c := true) (evt_val ?_)) rfl)
      refine Ev.is (ev_allB (bs := (List.range n).map fun _ => true) rfl T.f_all (Ev.is (ev_lcN (l := List.range n) (E := fun j => mkD (f t j)) (own := [("mark", 3)]) (g := gName 3) (fun _ => .bl true) rfl hN (blkOk_by (by kernel_rfl)) (EvIB.i (evi_tup (evb_v 2 hv) (Ext.refl _)) (Ext.refl _)) (by simpa using Nat.le_trans hn (by decide)) (fun _ _ _ _ _ => pgn 3 hN) gm_name ?_ (fun _ _ => noLst_bl _)) ?_)) ?_
      · intro j _ v3 H3 e3' hv3
        exact ⟨rfl, rfl, fun _ _ _ _ _ => ev_call (kp_is_mark T) hr (eva_cons (ev_v 3 hv3) eva_nil) ⟨_, rfl, rfl⟩⟩
      · rw [List.map_map]; rfl
      · simp
    · rintro σ' H' ⟨e3, _⟩
      exact wss_one (ws_ret ev_bl fun v H1 e hv => k v H1 (e3.trans e) hv)
end
end Wb
/-! The defs over cards. -/
namespace Wb
open PySem PySem.Spec L2
section
variable {P : Program} {w : World} {K : PySem.W.Frag} {mg : Str → Option Value} {base : Heap}
/-! row_behind, joined -/
def Rrow : List D → D → Prop := fun ds d => ∃ n F g, n ≤ 1000 ∧ ds = [rowD n F, cardD n g] ∧ d = rowD n fun j => S n fun t => later (F t) (g t j)
abbrev N_row_behind : List Str := ["row", "other", "goals", "third", "mark", "goal"]
theorem kp_row_behind (T : Top w K mg) : Kp P w K mg base "row_behind" ["row", "other"] [] 2 (spD K Rrow) := by
  have hN : N_row_behind.Nodup := by decide +kernel
  refine kp_d (N := N_row_behind) T 28 rfl ⟨rfl, rfl, rfl, hN, rfl, by decide +kernel, by decide +kernel⟩ (fun _ _ _ _ _ _ us hl => match us, hl with | [_, _], _ => rfl) (fun ds d ⟨n, F, g, _, h, _⟩ => by rw [h]; rfl) ?_
  rintro cdv A outer s H vs ds d Q E hr hv ⟨n, F, g, hn, rfl, rfl⟩ k
  obtain ⟨v0, v1, rfl, h0, h1⟩ := isAll2 hv
  refine wss_cons (ws_set hN (Ev.is (ev_rng T.f_range (ev_lenT T.f_len (ev_v 0 h0))) (by rw [len_rowD])) (i := 2) fun v2 H1 e1 h2 => ?_)
  replace h0 := h0.mono e1
  replace h1 := h1.mono e1
  refine wss_one (ws_ret (ev_tupleL T.f_tuple ?_) fun v H2 e2 hv => k v H2 (e1.trans e2) hv)
  have hz : (List.range n).length ≤ 100000 := by simpa using Nat.le_trans hn (by decide)
  refine ev_lcN (l := List.range n) (E := fun j => .int (j : Nat)) (own := [("goal", 5)]) (g := gName 5) (fun j => mkD (S n fun t => later (F t) (g t j))) rfl hN (blkOk_by (by kernel_rfl)) (EvIB.f fun B => evi_rngV (ev_v 2 h2) (by omega)) hz (fun _ _ _ _ _ => pgn 5 hN) gm_name ?_ (fun _ _ => noLst_str _)
  intro j hj v5 H2 e2 h5
  have hjn : j < n := List.mem_range.mp hj
  refine ⟨rfl, rfl, fun s' H' C cl fp => ?_⟩
  refine ev_call (kp_best_of T) hr (eva_cons (d := .lst (((List.range n).map fun t => later (F t) (g t j)).map mkD)) ?_ eva_nil) ⟨_, rfl, by rw [S_eq]⟩
  rw [List.map_map]
  refine ev_lcN (l := List.range n) (E := fun t : Nat => .tup [.int (t : Int), mkD (F t)]) (own := [("third", 3), ("mark", 4)]) (g := gTup K 2 (gCons (gName 3) (gCons (gName 4) gNil))) (fun t => mkD (later (F t) (g t j))) rfl hN (blkOk_by (by kernel_rfl)) ?_ hz (fun _ _ _ _ _ => pg2 3 4 rfl hN) gm2 ?_ (fun _ _ => noLst_str _)
  · rw [← enumD_range (G := fun t => mkD (F t))]
    exact evi_enumT T.f_enumerate (ev_v 0 (h0.mono e2))
  · intro t ht v H3 e3 hv
    have htn : t < n := List.mem_range.mp ht
    refine gTup2 hv fun v3 v4 h3 h4 => ⟨rfl, rfl, fun _ _ _ _ _ => ?_⟩
    refine ev_call (kp_later T) hr (eva_cons (ev_v 4 h4) (eva_cons ?_ eva_nil)) ⟨_, _, rfl, rfl⟩
    refine ev_ixT (ds := (List.range n).map fun j => mkD (g t j)) (j := j) ?_ (ev_ixT (ds := (List.range n).map fun i => rowD n (g i)) (j := t) ?_ (ev_v 1 (h1.mono (e2.trans e3))) (ev_v 3 h3)) (ev_v 5 (h5.mono e3))
    · rw [List.getElem?_map, List.getElem?_range hjn]; rfl
    · rw [List.getElem?_map, List.getElem?_range htn]; rfl

def Rjoin : List D → D → Prop := fun ds d => ∃ n f g, n ≤ 1000 ∧ ds = [cardD n f, cardD n g] ∧ d = cardD n (mul n f g)
abbrev N_joined : List Str := ["one", "other", "row"]
theorem kp_joined (T : Top w K mg) : Kp P w K mg base "joined" ["one", "other"] [] 3 (spD K Rjoin) := by
  have hN : N_joined.Nodup := by decide +kernel
  refine kp_d (N := N_joined) T 29 rfl ⟨rfl, rfl, rfl, hN, rfl, by decide +kernel, by decide +kernel⟩ (fun _ _ _ _ _ _ us hl => match us, hl with | [_, _], _ => rfl) (fun ds d ⟨n, F, g, _, h, _⟩ => by rw [h]; rfl) ?_
  rintro cdv A outer s H vs ds d Q E hr hv ⟨n, f, g, hn, rfl, rfl⟩ k
  obtain ⟨v0, v1, rfl, h0, h1⟩ := isAll2 hv
  refine wss_one (ws_ret (ev_tupleL T.f_tuple ?_) k)
  have hz : (List.range n).length ≤ 100000 := by simpa using Nat.le_trans hn (by decide)
  refine ev_lcN (l := List.range n) (E := fun i => rowD n (f i)) (own := [("row", 2)]) (g := gName 2) (fun i => rowD n (mul n f g i)) rfl hN (blkOk_by (by kernel_rfl)) (EvIB.i (evi_tup (evb_v 0 h0) (Ext.refl _)) (Ext.refl _)) hz (fun _ _ _ _ _ => pgn 2 hN) gm_name ?_ (fun _ _ => noLst_rowD _ _)
  intro i hi v2 H2 e2 h2
  refine ⟨rfl, rfl, fun s' H' C cl fp => ?_⟩
  exact ev_call (kp_row_behind T) hr (eva_cons (ev_v 2 h2) (eva_cons (ev_v 1 (h1.mono e2)) eva_nil)) ⟨n, f i, g, hn, rfl, rfl⟩
/-! the fields of a manual -/
section
variable {X : Cx} {σ : L2.St} {H : Hp} {pos p p2 : Pos} {a : Expr} {m : Mn}
theorem ev_fldM {f : Str} {d : D} (T : Top X.w X.K X.mg) (h : Ev X σ H a (.man m)) (hf : f ∈ (["rows", "firsts", "lasts", "rooms", "jobs"] : List Str))
    (k : ∀ {H : Hp} {x dx a1 a2 a3 a4 a5 : Addr}, Is X.K H (.ref a1) (.lst (m.rows.map Mnr.d)) → Is X.K H (.ref a2) (.lst (m.firsts.map D.str)) → Is X.K H (.ref a3) (.lst (m.lasts.map D.str)) → Is X.K H (.ref a4) (.lst (m.rooms.map D.str)) →
      ∃ v, List.lookup f ([("rows", V.ref a1), ("firsts", .ref a2), ("lasts", .ref a3), ("rooms", .ref a4), ("jobs", .ref a5)] : List (Str × V)) = some v ∧ Is X.K H v d)
    (hb : attributeBase a f X.env (eval a X.env) = eval a X.env := by rfl) : Ev X σ H (.Attribute a f pos) d := fun H1 e1 Q q => WE.of (pe_fld WE.pe hb) (h H1 e1 _ fun v H2 e2 hv => by
  cases hv with
  | man hx i1 i2 i3 i4 =>
    obtain ⟨v, hl, hv⟩ := k (x := 0) (dx := 0) i1 i2 i3 i4
    exact ⟨_, _, _, _, v, rfl, hx, T.manC, T.manN f hf, hl, q v H2 e2 hv⟩)
theorem ev_rows (T : Top X.w X.K X.mg) (h : Ev X σ H a (.man m)) (hb : attributeBase a "rows" X.env (eval a X.env) = eval a X.env := by rfl) : Ev X σ H (.Attribute a "rows" pos) (.lst (m.rows.map Mnr.d)) := ev_fldM T h (by decide) (fun i1 _ _ _ => ⟨_, rfl, i1⟩) hb
theorem ev_firsts (T : Top X.w X.K X.mg) (h : Ev X σ H a (.man m)) (hb : attributeBase a "firsts" X.env (eval a X.env) = eval a X.env := by rfl) : Ev X σ H (.Attribute a "firsts" pos) (.lst (m.firsts.map D.str)) := ev_fldM T h (by decide) (fun _ i1 _ _ => ⟨_, rfl, i1⟩) hb
theorem ev_lasts (T : Top X.w X.K X.mg) (h : Ev X σ H a (.man m)) (hb : attributeBase a "lasts" X.env (eval a X.env) = eval a X.env := by rfl) : Ev X σ H (.Attribute a "lasts" pos) (.lst (m.lasts.map D.str)) := ev_fldM T h (by decide) (fun _ _ i1 _ => ⟨_, rfl, i1⟩) hb
theorem ev_rooms (T : Top X.w X.K X.mg) (h : Ev X σ H a (.man m)) (hb : attributeBase a "rooms" X.env (eval a X.env) = eval a X.env := by rfl) : Ev X σ H (.Attribute a "rooms" pos) (.lst (m.rooms.map D.str)) := ev_fldM T h (by decide) (fun _ _ _ i1 => ⟨_, rfl, i1⟩) hb
theorem ev_isMan (T : Top X.w X.K X.mg) (h : Ev X σ H a (.man m)) (hg : Gl X "isinstance" := by rfl) (hg2 : Gl X "Manual" := by rfl) (hs : noStar a = true := by rfl) : Ev X σ H (.Call (.Name "isinstance" p) [a, .Name "Manual" p2] [] pos) (.bl true) := by
  refine ev_callB call_isi (r := rIsi X.K) (ds := [.man m, .obj (He.ga X.K "Manual")]) ?_ T.f_isinstance PyProof.Rows.boot_isinstance (eva_cons h (eva_cons (ev_glob (v := .ref (He.ga X.K "Manual")) hg2 T.c_man rfl (.obj _) (by decide)) eva_nil rfl) hs) hg (by rw [List.all_cons, hs]; rfl)
  intro vs H hv Q q
  obtain ⟨v0, v1, rfl, h0, h1⟩ := isAll2 hv
  cases h1
  cases h0 with
  | man hx i1 i2 i3 i4 => exact ⟨_, _, _, _, true, rfl, .own _, .base (.ins hx T.manC T.manA T.manG T.manT T.manO), T.manI, q _ H (Ext.refl _) (.bl _)⟩
end
/-! check_manual, check_card, cards_behind -/
def RcheckMan : List D → D → Prop := fun ds d => ∃ m, ds = [.man m] ∧ d = .non
abbrev N_check_manual : List Str := ["value"]
theorem kp_check_manual (T : Top w K mg) : Kp P w K mg base "check_manual" ["value"] [] 1 (spD K RcheckMan) := by
  have hN : N_check_manual.Nodup := by decide +kernel
  refine kp_d (N := N_check_manual) T 8 rfl ⟨rfl, rfl, rfl, hN, rfl, by decide +kernel, by decide +kernel⟩ (fun _ _ _ _ _ _ us hl => match us, hl with | [_], _ => rfl) (fun ds d ⟨m, h, _⟩ => by rw [h]; rfl) ?_
  rintro cdv A outer s H vs ds d Q E hr hv ⟨m, rfl, rfl⟩ k
  obtain ⟨v0, rfl, h0⟩ := isAll1 hv
  exact wss_one (ws_skip (evt_not (c := true) (evt_val (ev_isMan T (ev_v 0 h0)))) fun H1 e1 => k _ H1 e1 .non)
def RcheckCard : List D → D → Prop := fun ds d => ∃ m f, m.rooms.length ≤ 1000 ∧ ds = [.man m, cardD m.rooms.length f] ∧ d = .non
abbrev N_check_card : List Str := ["manual", "value"]
theorem kp_check_card (T : Top w K mg) : Kp P w K mg base "check_card" ["manual", "value"] [] 3 (spD K RcheckCard) := by
  have hN : N_check_card.Nodup := by decide +kernel
  refine kp_d (N := N_check_card) T 27 rfl ⟨rfl, rfl, rfl, hN, rfl, by decide +kernel, by decide +kernel⟩ (fun _ _ _ _ _ _ us hl => match us, hl with | [_, _], _ => rfl) (fun ds d ⟨m, _, _, h, _⟩ => by rw [h]; rfl) ?_
  rintro cdv A outer s H vs ds d Q E hr hv ⟨m, f, hn, rfl, rfl⟩ k
  obtain ⟨v0, v1, rfl, h0, h1⟩ := isAll2 hv
  refine wss_one (ws_skip (evt_not (c := true) (evt_val ?_)) fun H1 e1 => k _ H1 e1 .non)
  exact ev_call (kp_fits T) hr (eva_cons (Ev.is (ev_lenL T.f_len (ev_rooms T (ev_v 0 h0))) (by rw [List.length_map])) (eva_cons (ev_v 1 h1) eva_nil)) ⟨_, f, hn, rfl, rfl⟩
def Rcards : List D → D → Prop := fun ds d => ∃ m f g, m.rooms.length ≤ 1000 ∧ ds = [.man m, cardD m.rooms.length f, cardD m.rooms.length g] ∧ d = cardD m.rooms.length (mul m.rooms.length f g)
abbrev N_cards_behind : List Str := ["manual", "one", "other"]
theorem kp_cards_behind (T : Top w K mg) : Kp P w K mg base "cards_behind" ["manual", "one", "other"] [] 4 (spD K Rcards) := by
  have hN : N_cards_behind.Nodup := by decide +kernel
  refine kp_d (N := N_cards_behind) T 30 rfl ⟨rfl, rfl, rfl, hN, rfl, by decide +kernel, by decide +kernel⟩ (fun _ _ _ _ _ _ us hl => match us, hl with | [_, _, _], _ => rfl) (fun ds d ⟨m, _, _, _, h, _⟩ => by rw [h]; rfl) ?_
  rintro cdv A outer s H vs ds d Q E hr hv ⟨m, f, g, hn, rfl, rfl⟩ k
  obtain ⟨v0, v1, v2, rfl, h0, h1, h2⟩ := isAll3 hv
  refine wss_cons (ws_expr (ev_call (kp_check_manual T) (hr.mono (by decide)) (eva_cons (ev_v 0 h0) eva_nil) ⟨m, rfl, rfl⟩) fun H1 e1 => ?_)
  refine wss_cons (ws_expr (ev_call (kp_check_card T) (hr.mono (by decide)) (eva_cons (ev_v 0 (h0.mono e1)) (eva_cons (ev_v 1 (h1.mono e1)) eva_nil)) ⟨m, f, hn, rfl, rfl⟩) fun H2 e2 => ?_)
  refine wss_cons (ws_expr (ev_call (kp_check_card T) (hr.mono (by decide)) (eva_cons (ev_v 0 (h0.mono (e1.trans e2))) (eva_cons (ev_v 2 (h2.mono (e1.trans e2))) eva_nil)) ⟨m, g, hn, rfl, rfl⟩) fun H3 e3 => ?_)
  have e := e1.trans (e2.trans e3)
  exact wss_one (ws_ret (ev_call (kp_joined T) (hr.mono (by decide)) (eva_cons (ev_v 1 (h1.mono e)) (eva_cons (ev_v 2 (h2.mono e)) eva_nil)) ⟨_, f, g, hn, rfl, rfl⟩) fun v H4 e4 hv => k v H4 (e.trans e4) hv)
end
end Wb
/-! setdefault of a dict whose keys are tuples. -/
namespace Wb
open PySem PySem.Spec L2 PyProof.Rows
section
variable {X : Cx} {pins : List (Addr × Obj)} {σ : L2.St} {H : Hp} {s : Shared} {a : Addr} {r : Value} {d : V} {A : Around} {E : Value → Shared → Prop}
theorem setdT {kvs : List (List L2.Key × V)} {k : List L2.Key} {b : Addr} {Q : Value → Shared → Prop} (hu : A.units + 1 < cLine) (I : Inv X pins σ H s) (e : H a = some (.dT kvs)) (eb : H b = some (.tup (k.map kV))) (rd : RelV d r) (hl : kvs.length < sizeLine)
    (h1 : ∀ v, valV kvs k = some v → ∀ (w' : Value) (s' : Shared), Inv X pins σ H s' → RelV v w' → Q w' s') (h2 : valV kvs k = none → ∀ (w' : Value) (s' : Shared), Inv X pins σ (upd H a (.dT (putK kvs k d))) s' → RelV d w' → Q w' s') :
    wpAny (model X.prog X.w) A (call (.builtin "dict.setdefault") [.ref a, .ref b, r]) Q E s := by
  obtain ⟨z, hd, xs, rel, dd⟩ := dt_of I.hok e
  have hz : xs.length ≤ sizeLine := by rw [← Paired.length rel]; exact z
  refine call_setdefault_heap (hsz := hz) (tupleKind_room_in1 hu) (key_of I.hok eb) hd dd (fun p hp => ?_) fun hn h' dd' hs => ?_
  · have q := rel.val k
    rw [hp] at q
    cases q0 : valV kvs k with
    | none => rw [q0] at q; exact (show False from q).elim
    | some v0 => rw [q0] at q; exact h1 v0 q0 _ _ (I.tok _) q
  · have q := rel.val k
    rw [hn] at q
    cases q0 : valV kvs k with
    | some v0 => rw [q0] at q; exact (show False from q).elim
    | none =>
      have hl2 : (putK kvs k d).length ≤ sizeLine := by have := length_putK kvs k d; omega
      refine h2 q0 _ _ ?_ rd
      obtain ⟨q', es, ep, hq, c2, c3, c4, _, c5⟩ := dd'
      refine d_write I (by rw [e]; exact True.intro) hs ⟨q', hq⟩ ⟨hl2, hd, _, (rel.put k eb rd).keeps fun c ys ec => ?_, q', es, ep, hq, c2, c3, c4, c5⟩
      rw [upd_ne (ne_of ec e (fun z => nomatch z))]
      exact ec
end
def tDSetT (td ty tx : TE) : TE := fun σ H Q => td σ H fun x H1 => ∃ a, x = .ref a ∧ IsD H1 a ∧ ty σ H1 fun y H2 => tx σ H2 fun z H3 => ∃ (kvs : List (List L2.Key × V)) (k : List L2.Key) (b : Addr), H3 a = some (.dT kvs) ∧ y = .ref b ∧ H3 b = some (.tup (k.map kV)) ∧ kvs.length < sizeLine ∧
  (∀ v, valV kvs k = some v → Q v H3) ∧ (valV kvs k = none → Q z (upd H3 a (.dT (putK kvs k z))))
theorem pe_dsetT {X : Cx} {o e f : Expr} {td ty tx : TE} {apos cpos : Pos} (hu : X.A.units + 1 < cLine) (ho : PE X o td) (he : PE X e ty) (hf : PE X f tx) (m : M2 X o "setdefault" apos e f cpos) : PE X (.Call (.Attribute o "setdefault" apos) [e, f] [] cpos) (tDSetT td ty tx) := by
  refine ⟨fun pins s σ H Q I h => ?_⟩
  refine wpAny_Call_method m.base m.few m.line PySem.F.plainAttrs_dict PySem.F.slot_dict_setdefault PySem.F.type_dict_setdefault (thn (ho.run pins s σ H _ I h) fun u s1 ⟨x, H1, I1, rx, a, ex, d, q1⟩ => ?_)
  subst ex
  obtain rfl : u = Value.ref a := rx
  obtain ⟨t1, t2, _⟩ := isD_at I1 d
  refine ⟨t1, t2, ?_⟩
  rw [m.trees]
  refine Calls.callWith_builtin rfl (Calls.evalArgs_plain (Calls.spliced_cons (thn (he.run pins s1 σ H1 _ I1 q1) fun iv s2 ⟨y, H2, I2, ry, q2⟩ =>
    Calls.spliced_cons (thn (hf.run pins s2 σ H2 _ I2 q2) fun fv s3 ⟨z, H3, I3, rz, kvs, k, b, ea, ey, eb, hl, q3, q4⟩ => Calls.spliced_nil ?_))))
  subst ey
  obtain rfl : iv = Value.ref b := ry
  exact setdT (A := X.A) hu I3 ea eb rz hl (fun v hv w' s4 I4 rw' => ⟨v, _, I4, rw', q3 v hv⟩) fun hn w' s4 I4 rw' => ⟨z, _, I4, rw', q4 hn⟩
section
variable {X : Cx} {o e f a b : Expr} {σ : L2.St} {H : Hp} {pos p apos cpos : Pos} {Dn : Ends} {d : D} {Q : VK}
theorem we_v (i : Nat) {x : Str} {v : V} (k : Q v H) (hs : σ[i]? = some (some v) := by rfl) (hN : X.N[i]? = some x := by rfl) (hv : Vis X.env.scope x := by first | exact Or.inl rfl | exact Or.inr (Or.inl rfl) | exact Or.inr (Or.inr rfl))
    (hd : (x == ("__debug__" : Str)) = false := by decide) (hcd : (x == ("__classdict__" : Str)) = false := by decide) : WE X (.Name x pos) σ H Q := WE.of (pe_var hN hv hd hcd) ⟨v, hs, k⟩
theorem ws_set' {i : Nat} {x : Str} {pos' : Pos} (hN : X.N.Nodup) (h : WE X e σ H fun v H1 => Dn.nx (σ.set i (some v)) H1) (hi : X.N[i]? = some x := by rfl) (hx : Loc X.env.scope x := by first | exact .inl rfl | exact .inr rfl)
    (hs : swapsWith e (some (.Name x pos')) pos.line X.env = pure false := by rfl) (hf : X.fn x = true ∨ X.env.scope.names.lookup x = some .local := by first | exact .inl rfl | exact .inr rfl) : WS X (.Assign [.Name x pos'] e pos) Dn σ H :=
  WS.of (ps_set hN hi hx WE.pe hs hf) h
theorem WE.mono {Q' : VK} (h : WE X e σ H Q) (k : ∀ v H, Q v H → Q' v H) : WE X e σ H Q' := ⟨fun pins s I => wpAny_mono (h.run pins s I) (fun _ _ ⟨v, H', I', r, q⟩ => ⟨v, H', I', r, k v H' q⟩) fun _ _ z => z⟩
/-- o.append(e) -/
theorem ws_append (ho : WE X o σ H fun x H1 => ∃ l xs, x = .ref l ∧ H1 l = some (.lst xs) ∧ xs.length < 100000 ∧ WE X e σ H1 fun v H2 => H2 l = some (.lst xs) ∧ Dn.nx σ (upd H2 l (.lst (xs ++ [v]))))
    (hb : attributeBase o "append" X.env (eval o X.env) = eval o X.env := by rfl) (hs : noStar e = true := by rfl) (hline : (apos.endLine == cpos.line) = true := by rfl)
    (hsw : swapsWith (.Call (.Attribute o "append" apos) [e] [] cpos) none pos.line X.env = pure false := by rfl) : WS X (.Expr (.Call (.Attribute o "append" apos) [e] [] cpos) pos) Dn σ H := by
  have hst : starEach [e] X.env = [(false, eval e X.env)] := by rw [star_cons hs]; rfl
  refine WS.of (ps_expr (pe_bm PySem.F.plainAttrs_list PySem.F.slot_list_append PySem.F.type_list_append mt_append WE.pe (pa_cons WE.pe pa_nil (star_cons hs)) hb (by rw [hst]; rfl) hline (by rw [hst]; rfl) rfl) hsw) ?_
  exact WE.mono ho fun x H1 ⟨l, xs, ex, hl, hz, hw⟩ => by
    subst ex
    exact ⟨.inl ⟨rfl, _, SqL.of hl⟩, WE.mono hw fun y H2 ⟨hl2, hn⟩ => ⟨l, xs, y, rfl, rfl, hl2, Nat.lt_of_lt_of_le hz (by decide), hn⟩⟩
end
/-! ### walks over what stands in B: the items are data of B -/
structure YlB (K : PySem.W.Frag) (J : It) (B : Hp) (xs : List D) : Prop where
  go : ∀ i H', Ext B H' → i < xs.length → J.go i H'
  yld : ∀ i H' v H'' d, Ext B H' → xs[i]? = some d → J.yld i H' v H'' → H'' = H' ∧ Is K B v d
  stop : ∀ H', Ext B H' → J.stop xs.length H'
section
variable {K : PySem.W.Frag} {B : Hp} {a : Addr} {xs : List D}
theorem ylb_list (h : Is K B (.ref a) (.lst xs)) : YlB K (Itl K a) B xs := by
  have y := yl_list h
  cases h with
  | @lst _ vs _ hs ha =>
    refine ⟨y.go, fun i H' v H'' d e hd q => ?_, y.stop⟩
    obtain ⟨rfl, q⟩ := q
    obtain ⟨d', h1, h2⟩ := ha.get' (q vs (sqL_mono e hs))
    rw [hd] at h1; cases h1
    exact ⟨rfl, h2⟩
theorem ylb_tup (h : Is K B (.ref a) (.tup xs)) : YlB K (Itt K a) B xs := by
  have y := yl_tup h
  cases h with
  | @tup _ vs _ hs ha =>
    refine ⟨y.go, fun i H' v H'' d e hd q => ?_, y.stop⟩
    obtain ⟨rfl, q⟩ := q
    obtain ⟨d', h1, h2⟩ := ha.get' (q vs (sqT_mono e hs))
    rw [hd] at h1; cases h1
    exact ⟨rfl, h2⟩
theorem ylb_range {lo : Int} {n : Nat} : YlB K (Itr lo n) B ((List.range n).map fun i => .int (lo + (i : Nat))) := by
  have y : Yl K (Itr lo n) B _ := yl_range
  refine ⟨y.go, fun i H' v H'' d e hd q => ?_, y.stop⟩
  obtain ⟨_, i2⟩ := y.yld i H' v H'' d e hd q
  obtain ⟨rfl, rfl⟩ := q
  cases i2
  exact ⟨rfl, .int _⟩
theorem ylb_str {x : Str} : YlB K (Its x) B (x.cps.toList.map fun n => .str ⟨#[n]⟩) := by
  have y : Yl K (Its x) B _ := yl_str
  refine ⟨y.go, fun i H' v H'' d e hd q => ?_, y.stop⟩
  obtain ⟨_, i2⟩ := y.yld i H' v H'' d e hd q
  obtain ⟨rfl, n, hn, rfl⟩ := q
  cases i2
  exact ⟨rfl, .str _⟩
theorem ylb_rev (h : Is K B (.ref a) (.lst xs)) : YlB K (Itv K a xs.length) B xs.reverse := by
  have y := yl_rev h
  cases h with
  | @lst _ vs _ hs ha =>
    refine ⟨y.go, fun i H' v H'' d e hd q => ?_, y.stop⟩
    obtain ⟨rfl, q⟩ := q
    have hi : i < xs.length := by have := (List.getElem?_eq_some_iff.mp hd).1; simpa using this
    obtain ⟨d', h1, h2⟩ := ha.get' (q vs (sqL_mono e hs))
    rw [List.getElem?_reverse hi, h1] at hd; cases hd
    exact ⟨rfl, h2⟩
end
section
variable {X : Cx} {e a b iter tg elt : Expr} {σ : L2.St} {H B : Hp} {pos p : Pos} {xs : List D} {Dn : Ends}
def EvIS (X : Cx) (σ : L2.St) (H B : Hp) (tg iter : Expr) (xs : List D) : Prop := ∀ H1, Ext H H1 → ∀ R : It → Hp → Prop, (∀ J H2, Ext H1 H2 → YlB X.K J B xs → R J H2) → WI X tg iter σ H1 R
theorem evs_list (h : EvB X σ H B iter (.lst xs)) (x : Ext B H) : EvIS X σ H B tg iter xs := fun H1 e1 R q => WI.of (pi_list WE.pe) (h H1 e1 _ fun v H2 e2 hv => by
  have hv2 := hv.mono (x.trans (e1.trans e2))
  cases hv2 with
  | @lst a vs _ hs ha => exact ⟨a, rfl, ⟨vs, .of hs⟩, q _ H2 e2 (ylb_list hv)⟩)
theorem evs_tup (h : EvB X σ H B iter (.tup xs)) (x : Ext B H) : EvIS X σ H B tg iter xs := fun H1 e1 R q => WI.of (pi_tup WE.pe) (h H1 e1 _ fun v H2 e2 hv => by
  have hv2 := hv.mono (x.trans (e1.trans e2))
  cases hv2 with
  | @tup a vs _ hs ha => exact ⟨a, rfl, ⟨vs, hs⟩, q _ H2 e2 (ylb_tup hv)⟩)
theorem evs_str {x : Str} (h : Ev X σ H iter (.str x)) : EvIS X σ H B tg iter (x.cps.toList.map fun n => .str ⟨#[n]⟩) :=
  fun H1 e1 R q => WI.of (pi_str WE.pe) (h H1 e1 _ fun v H2 e2 hv => by cases hv; exact ⟨x, rfl, q _ H2 e2 ylb_str⟩)
theorem evs_rev (hm : X.mg "reversed" = none) (h : EvB X σ H B a (.lst xs)) (x : Ext B H) (hg : Gl X "reversed" := by rfl) (hs : noStar a = true := by rfl) : EvIS X σ H B tg (.Call (.Name "reversed" p) [a] [] pos) xs.reverse :=
  fun H1 e1 R q => WI.of (pi_reversed hg hm (pa_cons WE.pe pa_nil (star_cons hs)) (by rw [star_cons hs]; rfl)) (h H1 e1 _ fun v H2 e2 hv => by
    have hv2 := hv.mono (x.trans (e1.trans e2))
    have y := ylb_rev (K := X.K) (a := (match v with | .ref a => a | _ => 0)) (B := B) (xs := xs)
    cases hv2 with
    | @lst a vs _ hs ha =>
      refine ⟨a, vs, rfl, .of hs, ?_⟩
      rw [ha.length]
      exact q _ H2 e2 (y hv))
theorem evs_range {n : Nat} (hm : X.mg "range" = none) (h : Ev X σ H a (.int (n : Nat))) (hn : n ≤ 1000000) (hg : Gl X "range" := by rfl) (hs : noStar a = true := by rfl) : EvIS X σ H B tg (.Call (.Name "range" p) [a] [] pos) ((List.range n).map fun i => .int (i : Nat)) :=
  fun H1 e1 R q => WI.of (pi_range1 hg hm WA.pa (by rw [star_cons hs]; rfl)) (eva_cons h eva_nil hs H1 e1 _ fun vs H2 e2 hvs => by
    obtain ⟨v, rfl, hv⟩ := isAll1 hvs
    cases hv
    refine ⟨n, rfl, by omega, by omega, ?_⟩
    have y : YlB X.K (Itr 0 n) B ((List.range n).map fun i => .int (0 + (i : Nat))) := ylb_range
    have e0 : ((List.range n).map fun i => D.int (0 + (i : Nat))) = (List.range n).map fun i => D.int (i : Nat) := by simp
    rw [e0] at y
    exact q _ H2 e2 y)
theorem ws_forS {body : List Stmt} {g : TG} (hp : PassesOwn (model X.prog X.w) X.A X.env X.xe) (hc : X.calm = true) (hi : EvIS X σ H B tg iter xs) (hg : PG X tg g) (Jv : Nat → L2.St → Hp → Prop) (hB : ∀ i σ' H', Jv i σ' H' → Ext B H')
    (h0 : ∀ H1, Ext H H1 → Jv 0 σ H1) (hs : ∀ i d σ' H' v, xs[i]? = some d → Jv i σ' H' → Is X.K B v d → g v σ' H' fun σ2 H2 => WSs X body { Dn with nx := Jv (i + 1), ct := Jv (i + 1), bk := Dn.nx } σ2 H2)
    (hd : ∀ σ' H', Jv xs.length σ' H' → Dn.nx σ' H') (hf : ∀ x, foldedSetIterable iter X.env x = pure x := by intro _; rfl) : WS X (.For tg iter body [] pos) Dn σ H := by
  refine WS.of (ps_for hp hc WI.pi hg WSs.pss hf) (hi H (Ext.refl _) _ fun J H2 e2 y => ?_)
  refine ⟨fun i m σ H => m = xs.length - i ∧ i ≤ xs.length ∧ Jv i σ H, ⟨xs.length, by simp, Nat.zero_le _, h0 H2 e2⟩, ?_⟩
  rintro i m σ' H' ⟨rfl, hle, pj⟩
  by_cases hlt : i < xs.length
  · refine .inr ⟨y.go i H' (hB i _ H' pj) hlt, Jv (i + 1), fun σ2 H3 p' => ⟨xs.length - (i + 1), by omega, rfl, hlt, p'⟩, fun x H'' yy => ?_⟩
    have hd' : xs[i]? = some xs[i] := List.getElem?_eq_getElem hlt
    obtain ⟨rfl, v1⟩ := y.yld i H' x H'' xs[i] (hB i _ H' pj) hd' yy
    exact hs i xs[i] σ' _ x hd' pj v1
  · have e : i = xs.length := by omega
    subst e
    exact .inl ⟨y.stop H' (hB _ _ H' pj), hd σ' H' pj⟩
variable {K : PySem.W.Frag} {Q : L2.St → Hp → Prop}
theorem gTup2B {i j : Nat} {v : V} {d1 d2 : D} (h : Is K B v (.tup [d1, d2])) (x : Ext B H) (k : ∀ v1 v2, Is K B v1 d1 → Is K B v2 d2 → Q ((σ.set i (some v1)).set j (some v2)) H) : gTup K 2 (gCons (gName i) (gCons (gName j) gNil)) v σ H Q := by
  cases h with
  | @tup a xs _ hs ha =>
    obtain ⟨v1, v2, rfl, h1, h2⟩ := isAll2 ha
    exact ⟨a, _, rfl, sqT_mono x hs, rfl, v1, [v2], rfl, v2, [], rfl, rfl, k v1 v2 h1 h2⟩
theorem gTup3B {i j l : Nat} {v : V} {d1 d2 d3 : D} (h : Is K B v (.tup [d1, d2, d3])) (x : Ext B H) (k : ∀ v1 v2 v3, Is K B v1 d1 → Is K B v2 d2 → Is K B v3 d3 → Q (((σ.set i (some v1)).set j (some v2)).set l (some v3)) H) : gTup K 3 (gCons (gName i) (gCons (gName j) (gCons (gName l) gNil))) v σ H Q := by
  cases h with
  | @tup a xs _ hs ha =>
    obtain ⟨v1, v2, v3, rfl, h1, h2, h3⟩ := isAll3 ha
    exact ⟨a, _, rfl, sqT_mono x hs, rfl, v1, [v2, v3], rfl, v2, [v3], rfl, v3, [], rfl, rfl, k v1 v2 v3 h1 h2 h3⟩
theorem gTup4B {i j l m : Nat} {v : V} {d1 d2 d3 d4 : D} (h : Is K B v (.tup [d1, d2, d3, d4])) (x : Ext B H) (k : ∀ v1 v2 v3 v4, Is K B v1 d1 → Is K B v2 d2 → Is K B v3 d3 → Is K B v4 d4 → Q ((((σ.set i (some v1)).set j (some v2)).set l (some v3)).set m (some v4)) H) :
    gTup K 4 (gCons (gName i) (gCons (gName j) (gCons (gName l) (gCons (gName m) gNil)))) v σ H Q := by
  cases h with
  | @tup a xs _ hs ha =>
    obtain ⟨v1, v2, v3, v4, rfl, h1, h2, h3, h4⟩ := isAll4 ha
    exact ⟨a, _, rfl, sqT_mono x hs, rfl, v1, [v2, v3, v4], rfl, v2, [v3, v4], rfl, v3, [v4], rfl, v4, [], rfl, rfl, k v1 v2 v3 v4 h1 h2 h3 h4⟩
end
end Wb
/-! The defs over cards of books. -/
namespace Wb
open PySem PySem.Spec L2
/-- the i-th room -/
def Mn.at (m : Mn) (i : Nat) : Str := m.rooms.getD i Str.empty
theorem map_at {l : List Str} {F : Str → D} : l.map F = (List.range l.length).map fun i => F (l.getD i Str.empty) := by
  refine List.ext_getElem? fun i => ?_
  rw [List.getElem?_map, List.getElem?_map]
  by_cases h : i < l.length
  · rw [List.getElem?_range h, List.getElem?_eq_getElem h]; simp [h]
  · rw [List.getElem?_eq_none (Nat.le_of_not_lt h), List.getElem?_eq_none (by simpa using Nat.le_of_not_lt h)]; rfl
theorem getD_lt {l : List Str} {i : Nat} (h : i < l.length) : l.getD i Str.empty = l[i] := by rw [List.getD_eq_getElem?_getD, List.getElem?_eq_getElem h]; rfl
theorem at_mem {l : List Str} {i : Nat} (h : i < l.length) : l.getD i Str.empty ∈ l := by
  rw [getD_lt h]; exact List.getElem_mem h
theorem at_inj {l : List Str} (hn : l.Nodup) {i j : Nat} (hi : i < l.length) (hj : j < l.length) (h : l.getD i Str.empty = l.getD j Str.empty) : i = j := by
  rw [getD_lt hi, getD_lt hj] at h
  have q := List.pairwise_iff_getElem.mp hn
  rcases Nat.lt_trichotomy i j with c | c | c
  · exact absurd h (q i j hi hj c)
  · exact c
  · exact absurd h.symm (q j i hj hi c)
/-- no number above the most -/
def Eff.ok : Eff → Prop
  | .coins a => a ≤ 3
  | .fill a b => a ≤ 3 ∧ b ≤ 3
/-- a manner: words, small numbers -/
structure WfX (x : Mnr) : Prop where
  room : IsWord x.room
  job : IsWord x.job
  other : IsWord x.other
  eff : x.eff.ok
/-- what a manual's objects keep -/
structure WfM (m : Mn) : Prop where
  nd : m.rooms.Nodup
  small : m.rooms.length ≤ 3
  few : m.rows.length ≤ 50
  rowIn : ∀ r ∈ m.rows, r.room ∈ m.rooms ∧ r.other ∈ m.rooms
  firstIn : ∀ r ∈ m.firsts, r ∈ m.rooms
  lastIn : ∀ r ∈ m.lasts, r ∈ m.rooms
  firstN : m.firsts.Nodup
  lastN : m.lasts.Nodup
  rowsN : m.rows.Nodup
  rowW : ∀ r ∈ m.rows, WfX r
  word : ∀ r ∈ m.rooms, IsWord r
/-- the marks of the manners from room r to room g by the job -/
def jobMarks (rows : List Mnr) (job r g : Str) : List Wb.Mk := (rows.filter fun x => decide (x.room = r ∧ x.job = job ∧ x.other = g)).map fun x => x.eff.mk
def jobC (m : Mn) (job : Str) : Crd := fun i j => bestL (jobMarks m.rows job (m.at i) (m.at j))
section
variable {P : Program} {w : World} {K : PySem.W.Frag} {mg : Str → Option Value} {base : Heap}
section
variable {X : Cx} {σ : L2.St} {H B : Hp} {pos p p2 : Pos} {a : Expr} {m : Mn}
theorem evb_fldM {f : Str} {d : D} (T : Top X.w X.K X.mg) (h : EvB X σ H B a (.man m)) (x : Ext B H) (hf : f ∈ (["rows", "firsts", "lasts", "rooms", "jobs"] : List Str))
    (k : ∀ {H : Hp} {x dx a1 a2 a3 a4 a5 : Addr}, Is X.K H (.ref a1) (.lst (m.rows.map Mnr.d)) → Is X.K H (.ref a2) (.lst (m.firsts.map D.str)) → Is X.K H (.ref a3) (.lst (m.lasts.map D.str)) → Is X.K H (.ref a4) (.lst (m.rooms.map D.str)) →
      ∃ v, List.lookup f ([("rows", V.ref a1), ("firsts", .ref a2), ("lasts", .ref a3), ("rooms", .ref a4), ("jobs", .ref a5)] : List (Str × V)) = some v ∧ Is X.K H v d)
    (hb : attributeBase a f X.env (eval a X.env) = eval a X.env := by rfl) : EvB X σ H B (.Attribute a f pos) d := fun H1 e1 Q q => WE.of (pe_fld WE.pe hb) (h H1 e1 _ fun v H2 e2 hv => by
  cases hv with
  | man hx i1 i2 i3 i4 =>
    obtain ⟨v, hl, hv⟩ := k (x := 0) (dx := 0) i1 i2 i3 i4
    exact ⟨_, _, _, _, v, rfl, (x.trans (e1.trans e2)) _ _ hx, T.manC, T.manN f hf, hl, q v H2 e2 hv⟩)
theorem evb_rows (T : Top X.w X.K X.mg) (h : EvB X σ H B a (.man m)) (x : Ext B H) (hb : attributeBase a "rows" X.env (eval a X.env) = eval a X.env := by rfl) : EvB X σ H B (.Attribute a "rows" pos) (.lst (m.rows.map Mnr.d)) := evb_fldM T h x (by decide) (fun i1 _ _ _ => ⟨_, rfl, i1⟩) hb
theorem evb_firsts (T : Top X.w X.K X.mg) (h : EvB X σ H B a (.man m)) (x : Ext B H) (hb : attributeBase a "firsts" X.env (eval a X.env) = eval a X.env := by rfl) : EvB X σ H B (.Attribute a "firsts" pos) (.lst (m.firsts.map D.str)) := evb_fldM T h x (by decide) (fun _ i1 _ _ => ⟨_, rfl, i1⟩) hb
theorem evb_lasts (T : Top X.w X.K X.mg) (h : EvB X σ H B a (.man m)) (x : Ext B H) (hb : attributeBase a "lasts" X.env (eval a X.env) = eval a X.env := by rfl) : EvB X σ H B (.Attribute a "lasts" pos) (.lst (m.lasts.map D.str)) := evb_fldM T h x (by decide) (fun _ _ i1 _ => ⟨_, rfl, i1⟩) hb
theorem evb_rooms (T : Top X.w X.K X.mg) (h : EvB X σ H B a (.man m)) (x : Ext B H) (hb : attributeBase a "rooms" X.env (eval a X.env) = eval a X.env := by rfl) : EvB X σ H B (.Attribute a "rooms" pos) (.lst (m.rooms.map D.str)) := evb_fldM T h x (by decide) (fun _ _ _ i1 => ⟨_, rfl, i1⟩) hb
end
/-! empty_card -/
def Rempty : List D → D → Prop := fun ds d => ∃ m, WfM m ∧ ds = [.man m] ∧ d = cardD m.rooms.length one
abbrev N_empty_card : List Str := ["manual", "rooms", "goal", "room"]
theorem kp_empty_card (T : Top w K mg) : Kp P w K mg base "empty_card" ["manual"] [] 1 (spD K Rempty) := by
  have hN : N_empty_card.Nodup := by decide +kernel
  refine kp_d (N := N_empty_card) T 31 rfl ⟨rfl, rfl, rfl, hN, rfl, by decide +kernel, by decide +kernel⟩ (fun _ _ _ _ _ _ us hl => match us, hl with | [_], _ => rfl) (fun ds d ⟨m, _, h, _⟩ => by rw [h]; rfl) ?_
  rintro cdv A outer s H vs ds d Q E hr hv ⟨m, wf, rfl, rfl⟩ k
  obtain ⟨v0, rfl, h0⟩ := isAll1 hv
  refine wss_cons (ws_set hN (ev_rooms T (ev_v 0 h0)) (i := 1) fun v1 H1 e1 h1 => ?_)
  refine wss_one (ws_ret (ev_tupleL T.f_tuple ?_) fun v H2 e2 hv => k v H2 (e1.trans e2) hv)
  have hz : m.rooms.length ≤ 100000 := Nat.le_trans wf.small (by decide)
  have key : (m.rooms.map fun r => D.tup (m.rooms.map fun g => mkD (if r = g then .free else .never))) = (List.range m.rooms.length).map fun i => rowD m.rooms.length (one i) := by
    rw [map_at]
    refine List.map_congr_left fun i hi => ?_
    unfold rowD
    rw [map_at (l := m.rooms)]
    congr 1
    refine List.map_congr_left fun j hj => ?_
    have hi := List.mem_range.mp hi
    have hj := List.mem_range.mp hj
    unfold one
    by_cases e : i = j
    · subst e; rw [if_pos rfl, if_pos rfl]
    · rw [if_neg e, if_neg fun q => e (at_inj wf.nd hi hj q)]
  rw [← key]
  refine ev_lcN (l := m.rooms) (E := D.str) (own := [("room", 3)]) (g := gName 3) (fun r => D.tup (m.rooms.map fun g => mkD (if r = g then .free else .never))) rfl hN (blkOk_by (by kernel_rfl)) (EvIB.i (evi_list (evb_v 1 h1) (Ext.refl _)) (Ext.refl _)) hz (fun _ _ _ _ _ => pgn 3 hN) gm_name ?_ (fun r hr => by rw [noLst]; exact noLsts_all fun d hd => by obtain ⟨g, _, rfl⟩ := List.mem_map.mp hd; exact noLst_str _)
  intro r hr v3 H2 e2 h3
  refine ⟨rfl, rfl, fun s' H' C cl fp => ?_⟩
  refine ev_tupleL T.f_tuple ?_
  refine ev_lcN (l := m.rooms) (E := D.str) (own := [("goal", 2)]) (g := gName 2) (fun g => mkD (if r = g then .free else .never)) rfl hN (blkOk_by (by kernel_rfl)) (EvIB.i (evi_list (evb_v 1 (h1.mono e2)) (Ext.refl _)) (Ext.refl _)) hz (fun _ _ _ _ _ => pgn 2 hN) gm_name ?_ (fun _ _ => noLst_str _)
  intro g hg v2 H3 e3 h2
  refine ⟨rfl, rfl, fun _ _ _ _ _ => ?_⟩
  refine ev_ifExp (c := decide (r = g)) (evt_eqS (ev_v 3 (h3.mono e3)) (ev_v 2 h2)) (fun c => Ev.is ev_str ?_) (fun c => Ev.is ev_str ?_)
  · rw [if_pos (of_decide_eq_true c)]; rfl
  · rw [if_neg (of_decide_eq_false c)]; rfl
/-! job_card -/
def k2 (r g : Str) : List L2.Key := [.inr r, .inr g]
theorem k2_inj {r g r' g' : Str} (h : k2 r g = k2 r' g') : r = r' ∧ g = g' := by
  unfold k2 at h
  simp only [List.cons.injEq, Sum.inr.injEq, and_true] at h
  exact h
/-- the table of found marks at a, what stood at B untouched -/
structure TabM (B H : Hp) (a : Addr) (n : Nat) (F : Str → Str → List Wb.Mk) : Prop where
  ext : Ext B H
  new : B a = none
  tab : ∃ kvs : List (List L2.Key × V), H a = some (.dT kvs) ∧ kvs.length ≤ n ∧
    (∀ r g, valV kvs (k2 r g) = none → F r g = []) ∧
    (∀ r g v, valV kvs (k2 r g) = some v → ∃ l, v = .ref l ∧ B l = none ∧ l ≠ a ∧ H l = some (.lst ((F r g).map fun x => V.str (mkS x)))) ∧
    (∀ r g r' g' v, valV kvs (k2 r g) = some v → valV kvs (k2 r' g') = some v → r = r' ∧ g = g')
theorem TabM.mono {B H H' : Hp} {a : Addr} {n : Nat} {F : Str → Str → List Wb.Mk} (t : TabM B H a n F) (e : Ext H H') : TabM B H' a n F := by
  obtain ⟨e0, n0, kvs, h1, h2, h3, h4, h5⟩ := t
  refine ⟨e0.trans e, n0, kvs, e _ _ h1, h2, h3, fun r g v q => ?_, h5⟩
  obtain ⟨l, q1, q2, q3, q4⟩ := h4 r g v q
  exact ⟨l, q1, q2, q3, e _ _ q4⟩

theorem valV_some_lt {kvs : List (List L2.Key × V)} {n : Nat} (h : kvs.length ≤ n) {k : List L2.Key} {v : V} : (putK kvs k v).length ≤ n + 1 := Nat.le_trans (length_putK kvs k v) (by omega)
/-- one more mark -/
theorem TabM.put {B H2 : Hp} {a l : Addr} {n : Nat} {F : Str → Str → List Wb.Mk} {r0 g0 : Str} {x : Wb.Mk} {kvs : List (List L2.Key × V)} (e0 : Ext B H2) (n0 : B a = none) (h1 : H2 a = some (.dT kvs)) (h2 : kvs.length ≤ n)
    (h3 : ∀ r g, valV kvs (k2 r g) = none → F r g = []) (h4 : ∀ r g v, valV kvs (k2 r g) = some v → ∃ l, v = .ref l ∧ B l = none ∧ l ≠ a ∧ H2 l = some (.lst ((F r g).map fun x => V.str (mkS x))))
    (h5 : ∀ r g r' g' v, valV kvs (k2 r g) = some v → valV kvs (k2 r' g') = some v → r = r' ∧ g = g') (hl : valV kvs (k2 r0 g0) = some (.ref l)) :
    TabM B (upd H2 l (.lst (((F r0 g0).map fun x => V.str (mkS x)) ++ [V.str (mkS x)]))) a n fun r g => if r = r0 ∧ g = g0 then F r g ++ [x] else F r g := by
  obtain ⟨l', e, q2, q3, q4⟩ := h4 r0 g0 _ hl
  cases e
  refine ⟨e0.mut q2, n0, kvs, by rw [upd_ne (Ne.symm q3)]; exact h1, h2, fun r g q => ?_, fun r g v q => ?_, h5⟩
  · by_cases c : r = r0 ∧ g = g0
    · obtain ⟨rfl, rfl⟩ := c; rw [hl] at q; cases q
    · show (if r = r0 ∧ g = g0 then _ else _) = _
      rw [if_neg c]; exact h3 r g q
  · obtain ⟨l2, e2, p2, p3, p4⟩ := h4 r g v q
    by_cases c : r = r0 ∧ g = g0
    · obtain ⟨rfl, rfl⟩ := c
      rw [hl] at q; cases q
      cases e2
      exact ⟨l, rfl, p2, p3, by rw [upd_same, if_pos ⟨rfl, rfl⟩, List.map_append]; rfl⟩
    · refine ⟨l2, e2, p2, p3, ?_⟩
      have hne : l2 ≠ l := fun z => by
        subst z; subst e2
        exact c (h5 r g r0 g0 _ q hl)
      rw [upd_ne hne, if_neg c]; exact p4
theorem mnr_mem {l : List Mnr} {i : Nat} {d : D} (h : (l.map Mnr.d)[i]? = some d) : ∃ x, l[i]? = some x ∧ x ∈ l ∧ d = .tup [.str x.room, .str x.job, .str x.other, x.eff.d] := by
  obtain ⟨x, hx, rfl⟩ := map_get h
  exact ⟨x, hx, List.mem_of_getElem? hx, rfl⟩
theorem jobMarks_snoc {l : List Mnr} {job r g : Str} {x : Mnr} : jobMarks (l ++ [x]) job r g = if x.room = r ∧ x.job = job ∧ x.other = g then jobMarks l job r g ++ [x.eff.mk] else jobMarks l job r g := by
  unfold jobMarks
  rw [List.filter_append, List.map_append, List.filter_cons]
  by_cases c : x.room = r ∧ x.job = job ∧ x.other = g
  · rw [if_pos c, if_pos (decide_eq_true c)]; rfl
  · rw [if_neg c, if_neg (by rw [decide_eq_false c]; decide)]; simp
theorem take_succ' {α : Type} {l : List α} {i : Nat} {x : α} (h : l[i]? = some x) : l.take (i + 1) = l.take i ++ [x] := by
  obtain ⟨hl, he⟩ := List.getElem?_eq_some_iff.mp h
  rw [List.take_succ_eq_append_getElem hl, he]
theorem we_pair {X : Cx} {σ : L2.St} {H : Hp} {pos : Pos} {a b : Expr} {j : Nat} {x y : Str} {Q : VK} (ha : Ev X σ H a (.str x)) (hb : Ev X σ H b (.str y)) (k : ∀ p H2, Ext H H2 → H2 p = some (.tup [.str x, .str y]) → Q (.ref p) H2) (hs : noStar a = true := by rfl) (hs2 : noStar b = true := by rfl) :
    WE X (.Tuple [a, b] j pos) σ H Q := by
  refine WE.of (pe_tup (pa_cons WE.pe (pa_cons WE.pe pa_nil (star_cons hs2)) (star_cons hs))) ?_
  exact ha H (Ext.refl _) _ fun v H1 e1 hv => hb H1 e1 _ fun u H2 e2 hu => by
    cases hv; cases hu
    exact ⟨by show 2 ≤ sizeLine; decide, fun p hp => k p _ (e1.trans (e2.trans (Ext.new hp))) upd_same⟩
def RjobC : List D → D → Prop := fun ds d => ∃ m job, WfM m ∧ ds = [.man m, .str job] ∧ d = cardD m.rooms.length (jobC m job)
abbrev N_job_card : List Str := ["manual", "job", "found", "room", "work", "goal", "effect"]
theorem kp_job_card (T : Top w K mg) : Kp P w K mg base "job_card" ["manual", "job"] [] 2 (spD K RjobC) := by
  have hN : N_job_card.Nodup := by decide +kernel
  refine kp_d (N := N_job_card) T 32 rfl ⟨rfl, rfl, rfl, hN, rfl, by decide +kernel, by decide +kernel⟩ (fun _ _ _ _ _ _ us hl => match us, hl with | [_, _], _ => rfl) (fun ds d ⟨m, j, _, h, _⟩ => by rw [h]; rfl) ?_
  rintro cdv A outer s H vs ds d Q E hr hv ⟨m, job, wf, rfl, rfl⟩ k
  obtain ⟨v0, v1, rfl, h0, h1⟩ := isAll2 hv
  refine wss_cons (ws_set' hN (i := 2) (WE.of pe_dnewT fun a ha => ?_))
  have hz : m.rooms.length ≤ 100000 := Nat.le_trans wf.small (by decide)
  refine wss_cons (ws_forS PassesOwn.never rfl (B := H) (evs_list (evb_rows T (evb_v 0 h0) (Ext.new ha)) (Ext.new ha)) (pg4 3 4 5 6 rfl hN)
    (fun i σ' H' => (∃ x3 x4 x5 x6, σ' = [some v0, some v1, some (.ref a), x3, x4, x5, x6]) ∧ TabM H H' a i (jobMarks (m.rows.take i) job)) (fun i σ' H' h => h.2.ext) ?_ ?_ ?_)
  · exact fun H1 e1 => ⟨⟨_, _, _, _, rfl⟩, (Ext.new ha).trans e1, ha, [], e1 _ _ upd_same, Nat.le_refl _, fun r g _ => by simp [jobMarks], fun r g v q => (nomatch q), fun r g r' g' v q => (nomatch q)⟩
  · rintro i d σ' H' v hd ⟨⟨x3, x4, x5, x6, rfl⟩, tm⟩ hv
    obtain ⟨x, hx, hxm, rfl⟩ := mnr_mem hd
    refine gTup4B hv tm.ext fun w3 w4 w5 w6 i3 i4 i5 i6 => ?_
    have hil : i < m.rows.length := (List.getElem?_eq_some_iff.mp hx).1
    refine wss_one (ws_if (c := decide (x.job = job)) (EvT.is (evt_eqS (ev_v 4 (i4.mono tm.ext)) (ev_v 1 (h1.mono tm.ext))) rfl) (fun c H3 e3 => ?_) (fun c H3 e3 => ?_))
    · have tm := tm.mono e3
      obtain rfl := of_decide_eq_true c
      obtain ⟨e0, n0, kvs, t1, t2, t3, t4, t5⟩ := tm
      have few := wf.few
      have hF : ∀ F : Str → Str → List Wb.Mk, F = jobMarks (m.rows.take i) x.job → (fun r g => if r = x.room ∧ g = x.other then F r g ++ [x.eff.mk] else F r g) = jobMarks (m.rows.take (i + 1)) x.job := by
        rintro _ rfl
        funext r g
        rw [take_succ' hx, jobMarks_snoc]
        by_cases cc : r = x.room ∧ g = x.other
        · rw [if_pos cc, if_pos ⟨cc.1.symm, rfl, cc.2.symm⟩]
        · rw [if_neg cc, if_neg fun z => cc ⟨z.1.symm, z.2.2.symm⟩]
      refine wss_one (ws_append (WE.of (pe_dsetT (Nat.lt_of_le_of_lt (Nat.add_le_add_left (by decide) _) hr.units) WE.pe WE.pe (pe_lst pa_nil) ⟨rfl, rfl, rfl, rfl⟩) ?_))
      refine we_v 2 ⟨a, rfl, .inr ⟨kvs, .inl t1⟩, ?_⟩
      refine we_pair (ev_v 3 (i3.mono e0)) (ev_v 5 (i5.mono e0)) fun p H4 e4 hp => ?_
      refine ⟨Nat.zero_le _, fun q hq => ?_⟩
      have f5 : Ext H4 (upd H4 q (.lst [])) := Ext.new hq
      have a5 : upd H4 q (.lst []) a = some (.dT kvs) := f5 _ _ (e4 _ _ t1)
      have hqa : q ≠ a := fun z => by rw [z, e4 _ _ t1] at hq; cases hq
      refine ⟨kvs, k2 x.room x.other, p, a5, rfl, f5 _ _ hp, Nat.lt_of_le_of_lt (Nat.le_trans t2 (Nat.le_of_lt hil)) (Nat.lt_of_le_of_lt few (show 50 < sizeLine by decide)), fun v hv0 => ?_, fun hv0 => ?_⟩
      · obtain ⟨l, rfl, q2, q3, q4⟩ := t4 _ _ _ hv0
        refine ⟨l, _, rfl, f5 _ _ (e4 _ _ q4), ?_, ?_⟩
        · rw [List.length_map]
          unfold jobMarks
          rw [List.length_map]
          exact Nat.lt_of_le_of_lt (List.length_filter_le ..) (by rw [List.length_take]; omega)
        · refine (ev_call (kp_effect_mark T) (hr.mono (by decide)) (eva_cons (ev_v 6 (i6.mono (e0.trans (e4.trans f5)))) eva_nil) ⟨_, rfl, rfl⟩) _ (Ext.refl _) _ fun v H5 e5 hv5 => ?_
          cases hv5
          have ee := e4.trans (f5.trans e5)
          refine ⟨ee _ _ q4, ⟨_, _, _, _, rfl⟩, ?_⟩
          have := TabM.put (x := x.eff.mk) (n := i + 1) (e0.trans ee) n0 (ee _ _ t1) (Nat.le_succ_of_le t2) t3 (fun r g v q => by obtain ⟨l, z1, z2, z3, z4⟩ := t4 r g v q; exact ⟨l, z1, z2, z3, ee _ _ z4⟩) t5 hv0
          rw [hF _ rfl] at this
          exact this
      · have hF0 := t3 _ _ hv0
        have b5 : H q = none := (e0.trans e4).back hq
        have bx : Ext H (upd (upd H4 q (.lst [])) a (.dT (putK kvs (k2 x.room x.other) (.ref q)))) := (e0.trans (e4.trans f5)).mut n0
        refine ⟨q, [], rfl, by rw [upd_ne hqa]; exact upd_same, Nat.zero_lt_succ _, ?_⟩
        refine (ev_call (kp_effect_mark T) (hr.mono (by decide)) (eva_cons (ev_v 6 (i6.mono bx)) eva_nil) ⟨_, rfl, rfl⟩) _ (Ext.refl _) _ fun v H5 e5 hv5 => ?_
        cases hv5
        have hq5 : H5 q = some (.lst []) := e5 _ _ (by rw [upd_ne hqa]; exact upd_same)
        have ha5 : H5 a = some (.dT (putK kvs (k2 x.room x.other) (.ref q))) := e5 _ _ upd_same
        have up : ∀ l o, l ≠ a → H3 l = some o → H5 l = some o := fun l o hl ho => e5 _ _ (by rw [upd_ne hl]; exact f5 _ _ (e4 _ _ ho))
        refine ⟨hq5, ⟨_, _, _, _, rfl⟩, ?_⟩
        have hq3 : H3 q = none := e4.back hq
        have get : ∀ r g, valV (putK kvs (k2 x.room x.other) (.ref q)) (k2 r g) = if r = x.room ∧ g = x.other then some (.ref q) else valV kvs (k2 r g) := fun r g => by
          rw [valV_put]
          by_cases cc : r = x.room ∧ g = x.other
          · obtain ⟨rfl, rfl⟩ := cc; rw [if_pos rfl, if_pos ⟨rfl, rfl⟩]
          · rw [if_neg cc, if_neg fun z => cc (k2_inj z)]
        have := TabM.put (B := H) (H2 := H5) (a := a) (l := q) (n := i + 1) (F := jobMarks (m.rows.take i) x.job) (r0 := x.room) (g0 := x.other) (x := x.eff.mk) (bx.trans e5) n0 ha5 (Nat.le_trans (length_putK ..) (by omega))
          (fun r g z => ?_) (fun r g v z => ?_) (fun r g r' g' v z z' => ?_) (by rw [get, if_pos ⟨rfl, rfl⟩])
        · rw [hF _ rfl, hF0] at this
          exact this
        · rw [get] at z
          by_cases cc : r = x.room ∧ g = x.other
          · rw [if_pos cc] at z; cases z
          · rw [if_neg cc] at z; exact t3 r g z
        · rw [get] at z
          by_cases cc : r = x.room ∧ g = x.other
          · rw [if_pos cc] at z
            cases z
            obtain ⟨rfl, rfl⟩ := cc
            exact ⟨q, rfl, b5, hqa, by rw [hF0]; exact hq5⟩
          · rw [if_neg cc] at z
            obtain ⟨l, z1, z2, z3, z4⟩ := t4 r g v z
            exact ⟨l, z1, z2, z3, up l _ z3 z4⟩
        · rw [get] at z z'
          have old : ∀ r g, valV kvs (k2 r g) = some (.ref q) → False := fun r g z => by
            obtain ⟨l, z1, _, _, z4⟩ := t4 r g _ z
            cases z1
            rw [hq3] at z4; cases z4
          by_cases cc : r = x.room ∧ g = x.other <;> by_cases cc' : r' = x.room ∧ g' = x.other
          · exact ⟨cc.1.trans cc'.1.symm, cc.2.trans cc'.2.symm⟩
          · rw [if_pos cc] at z; rw [if_neg cc'] at z'; cases z; exact (old _ _ z').elim
          · rw [if_neg cc] at z; rw [if_pos cc'] at z'; cases z'; exact (old _ _ z).elim
          · rw [if_neg cc] at z; rw [if_neg cc'] at z'; exact t5 _ _ _ _ _ z z'
    · refine wss_nil ⟨⟨_, _, _, _, rfl⟩, ?_⟩
      have tm := tm.mono e3
      have hne : x.job ≠ job := of_decide_eq_false c
      obtain ⟨e0, n0, kvs, t1, t2, t3, t4, t5⟩ := tm
      have hF : jobMarks (m.rows.take (i + 1)) job = jobMarks (m.rows.take i) job := by
        funext r g
        rw [take_succ' hx, jobMarks_snoc, if_neg fun z => hne z.2.1]
      rw [hF]
      exact ⟨e0, n0, kvs, t1, Nat.le_succ_of_le t2, t3, t4, t5⟩
  · rintro σ' H' ⟨⟨x3, x4, x5, x6, rfl⟩, tm⟩
    rw [List.length_map, List.take_length] at tm
    obtain ⟨e0, n0, kvs, t1, t2, t3, t4, t5⟩ := tm
    refine wss_one (ws_ret (ev_tupleL T.f_tuple ?_) fun v H2 e2 hv => k v H2 (e0.trans e2) hv)
    have key : (m.rooms.map fun r => D.tup (m.rooms.map fun g => mkD (bestL (jobMarks m.rows job r g)))) = (List.range m.rooms.length).map fun i => rowD m.rooms.length (jobC m job i) := by
      rw [map_at]
      refine List.map_congr_left fun i hi => ?_
      unfold rowD
      rw [map_at (l := m.rooms)]
      rfl
    rw [← key]
    refine ev_lcN (l := m.rooms) (E := D.str) (own := [("room", 3)]) (g := gName 3) (fun r => D.tup (m.rooms.map fun g => mkD (bestL (jobMarks m.rows job r g)))) rfl hN (blkOk_by (by kernel_rfl)) (EvIB.i (evi_list (evb_rooms T (evb_v 0 h0) e0) e0) e0) hz (fun _ _ _ _ _ => pgn 3 hN) gm_name ?_ (fun r hr => by rw [noLst]; exact noLsts_all fun d hd => by obtain ⟨g, _, rfl⟩ := List.mem_map.mp hd; exact noLst_str _)
    intro r hrm w3 H2 e2 i3
    refine ⟨rfl, rfl, fun s' H'' C cl fp => ?_⟩
    refine ev_tupleL T.f_tuple ?_
    refine ev_lcN (l := m.rooms) (E := D.str) (own := [("goal", 5)]) (g := gName 5) (fun g => mkD (bestL (jobMarks m.rows job r g))) rfl hN (blkOk_by (by kernel_rfl)) (EvIB.i (evi_list (evb_rooms T (evb_v 0 h0) (e0.trans e2)) (e0.trans e2)) (e0.trans e2)) hz (fun _ _ _ _ _ => pgn 5 hN) gm_name ?_ (fun _ _ => noLst_str _)
    intro g hgm w5 H3 e3 i5
    refine ⟨rfl, rfl, fun _ _ _ _ _ => ?_⟩
    refine ev_call (kp_best_of T) (hr.mono (by decide)) (eva_cons (d := .lst ((jobMarks m.rows job r g).map mkD)) (fun H4 e4 Q q => WE.of (pe_dget2 (Nat.lt_of_le_of_lt (Nat.add_le_add_left (by decide) _) hr.units) WE.pe WE.pe (pe_lst pa_nil) ⟨rfl, rfl, rfl, rfl⟩) ?_) eva_nil) ⟨_, rfl, rfl⟩
    have ee := e2.trans (e3.trans e4)
    refine we_v 2 ⟨a, rfl, .inr ⟨kvs, .inl (ee _ _ t1)⟩, ?_⟩
    refine we_pair (ev_v 3 (i3.mono (e3.trans e4))) (ev_v 5 (i5.mono e4)) fun p H5 e5 hp => ?_
    refine ⟨Nat.zero_le _, fun z hz => ?_⟩
    have f6 : Ext H5 (upd H5 z (.lst [])) := Ext.new hz
    refine ⟨_, DGet.t (k := k2 r g) (f6 _ _ (e5 _ _ (ee _ _ t1))) (f6 _ _ hp), ?_⟩
    cases hv : valV kvs (k2 r g) with
    | none =>
      refine q _ _ (e5.trans f6) ?_
      rw [t3 r g hv]
      exact .lst upd_same .nil
    | some v =>
      obtain ⟨l, rfl, _, _, t4'⟩ := t4 r g v hv
      refine q _ _ (e5.trans f6) (.lst (f6 _ _ (e5 _ _ (ee _ _ t4'))) ?_)
      rw [map_mkD]
      have := isAll_ofStrs (K := K) (H := upd H5 z (.lst [])) ((jobMarks m.rows job r g).map mkS)
      rw [List.map_map] at this
      exact this
end
end Wb
/-! Comprehensions of two walks. -/
namespace Wb
open PySem PySem.Spec L2
/-- the heap without a -/
def wo (H : Hp) (a : Addr) : Hp := fun b => if b = a then none else H b
theorem wo_ne {H : Hp} {a b : Addr} (h : b ≠ a) : wo H a b = H b := if_neg h
theorem wo_same {H : Hp} {a : Addr} : wo H a a = none := if_pos rfl
theorem Ext.wo {B H : Hp} {a : Addr} (e : Ext B H) (h : B a = none) : Ext B (Wb.wo H a) := fun b o q => by rw [wo_ne (ne_of_none q h)]; exact e b o q
theorem Ext.ofWo {H : Hp} {a : Addr} : Ext (Wb.wo H a) H := fun b o q => by
  by_cases e : b = a
  · subst e; rw [wo_same] at q; cases q
  · rwa [wo_ne e] at q
theorem Ext.wo2 {H H' : Hp} {a : Addr} (e : Ext H H') : Ext (Wb.wo H a) (Wb.wo H' a) := fun b o q => by
  by_cases c : b = a
  · subst c; rw [wo_same] at q; cases q
  · rw [wo_ne c] at q ⊢; exact e b o q
theorem Ext.wo_upd {H : Hp} {a : Addr} {o : HO} : Ext (Wb.wo H a) (Wb.wo (upd H a o) a) := fun b o' q => by
  by_cases c : b = a
  · subst c; rw [wo_same] at q; cases q
  · rw [wo_ne c] at q ⊢; rwa [upd_ne c]
section
variable {X : Cx} {e a b iter tg iter1 tg1 elt : Expr} {σ : L2.St} {H B : Hp} {pos p : Pos} {Dn : Ends} {α β : Type} {l : List α} {E : α → D} {l2 : α → List β} {E2 : β → D}
def bkI (X : Cx) (scope : Scope) (tg iter : Expr) : TI := fun σ H R => ∀ s H' C cl fp, WI (Bk X scope s H' C cl fp) tg iter σ H R
theorem lc2_read {scope : Scope} {vs vs1 : List Nat} {g g1 : TG} (f : α → β → D) (hi : EvI X σ H tg iter (l.map E)) (hz : (l.flatMap fun a => (l2 a).map (f a)).length ≤ 100000) (hm : GMono g) (hm1 : GMono g1)
    (hs : ∀ d ∈ l, ∀ v H1, Ext H H1 → Is X.K H1 v (E d) → ∀ Dl, H Dl = none → (∃ o, H1 Dl = some o) → g v (wipe σ vs) H1 fun σ2 H2 => H2 = H1 ∧ wipe σ2 vs = wipe σ vs ∧
      (∀ s H' C cl fp, ∀ R : It → Hp → Prop, (∀ J H5, Ext H1 H5 → Yl X.K J (wo H5 Dl) ((l2 d).map E2) → R J H5) → WI (Bk X scope s H' C cl fp) tg1 iter1 σ2 H1 R) ∧
      (∀ b ∈ l2 d, ∀ u H', Ext (wo H1 Dl) H' → Is X.K H' u (E2 b) → g1 u (wipe σ2 vs1) H' fun σ3 H6 => H6 = H' ∧ wipe σ3 vs1 = wipe σ2 vs1 ∧ ∀ s H'' C cl fp, Ev (Bk X scope s H'' C cl fp) σ3 H' elt (f d b)))
    (hn : ∀ d ∈ l, ∀ b ∈ l2 d, noLst (f d b) = true) {H1 : Hp} (e1 : Ext H H1) {Q : VK} (k : ∀ a H2, Ext H1 H2 → H1 a = none → Is X.K H2 (.ref a) (.lst (l.flatMap fun a => (l2 a).map (f a))) → Q (.ref a) H2) :
    tLc2 (WI X tg iter) g tYes (bkI X scope tg1 iter1) g1 tYes (bkE X scope elt) vs vs1 σ H1 Q := by
  refine hi H1 e1 _ fun J Hb e2 y Dl hD => ?_
  have hD0 : H Dl = none := (e1.trans e2).back hD
  refine ⟨fun i m H' => m = l.length - i ∧ i ≤ l.length ∧ Ext Hb H' ∧ ∃ acc, H' Dl = some (.lst acc) ∧ IsAll X.K H' acc ((l.take i).flatMap fun a => (l2 a).map (f a)), ⟨l.length, by simp, Nat.zero_le _, Ext.new hD, [], upd_same, .nil⟩, ?_⟩
  rintro i m H3 ⟨rfl, hle, p1, acc, p2, p3⟩
  by_cases hlt : i < l.length
  · have hlt' : i < (l.map E).length := by simpa using hlt
    refine .inr ⟨y.go i H3 p1 hlt', fun H' => i + 1 ≤ l.length ∧ Ext Hb H' ∧ ∃ acc, H' Dl = some (.lst acc) ∧ IsAll X.K H' acc ((l.take (i + 1)).flatMap fun a => (l2 a).map (f a)), fun H' ⟨q1, q2⟩ => ⟨l.length - (i + 1), by omega, rfl, q1, q2⟩, fun v H4 yy => ?_⟩
    have hd : l[i]? = some l[i] := List.getElem?_eq_getElem hlt
    have hd' : (l.map E)[i]? = some (E l[i]) := by rw [List.getElem?_map, hd]; rfl
    have hmem : l[i] ∈ l := List.getElem_mem hlt
    obtain ⟨e3, hv⟩ := y.yld i H3 v H4 (E l[i]) p1 hd' yy
    have e4 : Ext Hb H4 := p1.trans e3
    have htk : l.take (i + 1) = l.take i ++ [l[i]] := List.take_succ_eq_append_getElem hlt
    refine hm v _ H4 _ _ (fun σ2 H2 ⟨q1, q2, q3, q4⟩ => ?_) (hs l[i] hmem v H4 ((e1.trans e2).trans e4) hv Dl hD0 ⟨_, e3 _ _ p2⟩)
    subst q1
    refine ⟨q2, ?_⟩
    simp only [tYes, ↓reduceIte]
    intro s H' C cl fp
    refine q3 s H' C cl fp _ fun J1 H5 e5 y1 => ?_
    have total : (l.flatMap fun a => (l2 a).map (f a)) = ((l.take i).flatMap fun a => (l2 a).map (f a)) ++ (l2 l[i]).map (f l[i]) ++ ((l.drop (i + 1)).flatMap fun a => (l2 a).map (f a)) := by
      conv => lhs; rw [← List.take_append_drop (i + 1) l]
      rw [List.flatMap_append, htk, List.flatMap_append]
      simp
    refine ⟨fun j k H' => k = (l2 l[i]).length - j ∧ j ≤ (l2 l[i]).length ∧ Ext Hb H' ∧ Ext (wo H5 Dl) H' ∧ ∃ acc, H' Dl = some (.lst acc) ∧ IsAll X.K H' acc (((l.take i).flatMap fun a => (l2 a).map (f a)) ++ ((l2 l[i]).take j).map (f l[i])),
      ⟨(l2 l[i]).length, by simp, Nat.zero_le _, e4.trans e5, Ext.ofWo, acc, e5 _ _ (e3 _ _ p2), by simpa using p3.mono (e3.trans e5)⟩, ?_⟩
    rintro j k' H6 ⟨rfl, hle1, r1, r2, acc2, r3, r4⟩
    by_cases hlt1 : j < (l2 l[i]).length
    · have hlt1' : j < ((l2 l[i]).map E2).length := by simpa using hlt1
      refine .inr ⟨y1.go j H6 r2 hlt1', fun H' => j + 1 ≤ (l2 l[i]).length ∧ Ext Hb H' ∧ Ext (wo H5 Dl) H' ∧ ∃ acc, H' Dl = some (.lst acc) ∧ IsAll X.K H' acc (((l.take i).flatMap fun a => (l2 a).map (f a)) ++ ((l2 l[i]).take (j + 1)).map (f l[i])),
        fun H' ⟨q1, q2⟩ => ⟨(l2 l[i]).length - (j + 1), by omega, rfl, q1, q2⟩, fun u H7 yy1 => ?_⟩
      have hb : (l2 l[i])[j]? = some (l2 l[i])[j] := List.getElem?_eq_getElem hlt1
      have hb' : ((l2 l[i]).map E2)[j]? = some (E2 (l2 l[i])[j]) := by rw [List.getElem?_map, hb]; rfl
      have hbm : (l2 l[i])[j] ∈ l2 l[i] := List.getElem_mem hlt1
      obtain ⟨e7, hu⟩ := y1.yld j H6 u H7 _ r2 hb' yy1
      have w7 : Ext (wo H2 Dl) H7 := (e5.wo2).trans (r2.trans e7)
      refine hm1 u _ H7 _ _ (fun σ3 H8 ⟨z1, z2, z3⟩ => ?_) (q4 _ hbm u H7 w7 hu)
      subst z1
      refine ⟨z2, fun s H' C cl fp => z3 s H' C cl fp H8 (Ext.refl _) _ fun z H9 e9 hz' => ?_⟩
      have r4' := r4.mono (e7.trans e9)
      have hD9 : H9 Dl = some (.lst acc2) := e9 _ _ (e7 _ _ r3)
      have hlen : acc2.length < 100000 := by
        have h1 := r4.length
        rw [total] at hz
        simp only [List.length_append, List.length_map, List.length_take] at h1 hz
        omega
      refine ⟨acc2, hD9, Nat.lt_of_lt_of_le hlen (by decide), hlt1, (r1.trans (e7.trans e9)).mut hD, (r2.trans (e7.trans e9)).mut wo_same, acc2 ++ [z], upd_same, ?_⟩
      have kp : ExtN H9 (upd H9 Dl (.lst (acc2 ++ [z]))) := (Ext.refl H9).n.upd hD9
      have htk1 : (l2 l[i]).take (j + 1) = (l2 l[i]).take j ++ [(l2 l[i])[j]] := List.take_succ_eq_append_getElem hlt1
      rw [htk1, List.map_append, ← List.append_assoc]
      refine IsAll.append (r4'.keep kp (noLsts_all fun w hw => ?_)) (.cons (hz'.keep kp (hn _ hmem _ hbm)) .nil)
      rcases List.mem_append.mp hw with hw | hw
      · obtain ⟨a', ha', hw⟩ := List.mem_flatMap.mp hw
        obtain ⟨b', hb2, rfl⟩ := List.mem_map.mp hw
        exact hn _ (List.mem_of_mem_take ha') _ hb2
      · obtain ⟨b', hb2, rfl⟩ := List.mem_map.mp hw
        exact hn _ hmem _ (List.mem_of_mem_take hb2)
    · have ej : j = (l2 l[i]).length := by omega
      subst ej
      have st := y1.stop H6 r2
      rw [List.length_map] at st
      refine .inl ⟨st, hlt, r1, acc2, r3, ?_⟩
      rw [List.take_length] at r4
      rw [htk, List.flatMap_append]
      simpa using r4
  · have e : i = l.length := by omega
    subst e
    have st := y.stop H3 p1
    rw [List.length_map] at st
    rw [List.take_length] at p3
    exact .inl ⟨st, k _ H3 (e2.trans p1) (e2.back hD) (.lst p2 p3)⟩
theorem ev_lc2 {scope : Scope} {own : List (Str × Nat)} {vs1 : List Nat} {g g1 : TG} (f : α → β → D) (hc : X.calm = true) (hN : X.N.Nodup) (ok : BlkOk X.N X.env.scope scope own) (hv : ∀ i ∈ vs1, i ∈ own.map (·.2)) (hi : EvI X σ H tg iter (l.map E)) (hz : (l.flatMap fun a => (l2 a).map (f a)).length ≤ 100000)
    (hg : ∀ s H C cl fp, PG (Bk X scope s H C cl fp) tg g) (hg1 : ∀ s H C cl fp, PG (Bk X scope s H C cl fp) tg1 g1) (hm : GMono g) (hm1 : GMono g1)
    (hs : ∀ d ∈ l, ∀ v H1, Ext H H1 → Is X.K H1 v (E d) → ∀ Dl, H Dl = none → (∃ o, H1 Dl = some o) → g v (wipe σ (own.map (·.2))) H1 fun σ2 H2 => H2 = H1 ∧ wipe σ2 (own.map (·.2)) = wipe σ (own.map (·.2)) ∧
      (∀ s H' C cl fp, ∀ R : It → Hp → Prop, (∀ J H5, Ext H1 H5 → Yl X.K J (wo H5 Dl) ((l2 d).map E2) → R J H5) → WI (Bk X scope s H' C cl fp) tg1 iter1 σ2 H1 R) ∧
      (∀ b ∈ l2 d, ∀ u H', Ext (wo H1 Dl) H' → Is X.K H' u (E2 b) → g1 u (wipe σ2 vs1) H' fun σ3 H6 => H6 = H' ∧ wipe σ3 vs1 = wipe σ2 vs1 ∧ ∀ s H'' C cl fp, Ev (Bk X scope s H'' C cl fp) σ3 H' elt (f d b)))
    (hn : ∀ d ∈ l, ∀ b ∈ l2 d, noLst (f d b) = true) (hf : ∀ x, foldedSetIterable iter X.env x = pure x := by intro _; rfl) (hf1 : ∀ env x, foldedSetIterable iter1 env x = pure x := by intro _ _; rfl) :
    Ev X σ H (.ListComp elt [⟨tg, iter, [], 0⟩, ⟨tg1, iter1, [], 0⟩] scope pos) (.lst (l.flatMap fun a => (l2 a).map (f a))) := fun H1 e1 Q k =>
  WE.of (pe_lc2 hc hN WI.pi ok hv hg (fun s H C cl fp => pts_nil) (wi1 := bkI X scope tg1 iter1) (fun s H C cl fp => ⟨fun pins s' σ H R I h => (h _ _ _ _ _).run pins s' I⟩) hg1 (fun s H C cl fp => pts_nil) (te := bkE X scope elt) (fun s H C cl fp => ⟨fun pins s' σ H Q I h => (h _ _ _ _ _).run pins s' I⟩) hf hf1)
    (lc2_read f hi hz hm hm1 hs hn e1 fun a H2 e2 _ hv => k _ H2 e2 hv)
/-- .. the new list's place told -/
theorem we_lc2 {scope : Scope} {own : List (Str × Nat)} {vs1 : List Nat} {g g1 : TG} (f : α → β → D) (hc : X.calm = true) (hN : X.N.Nodup) (ok : BlkOk X.N X.env.scope scope own) (hv : ∀ i ∈ vs1, i ∈ own.map (·.2)) (hi : EvI X σ H tg iter (l.map E)) (hz : (l.flatMap fun a => (l2 a).map (f a)).length ≤ 100000)
    (hg : ∀ s H C cl fp, PG (Bk X scope s H C cl fp) tg g) (hg1 : ∀ s H C cl fp, PG (Bk X scope s H C cl fp) tg1 g1) (hm : GMono g) (hm1 : GMono g1)
    (hs : ∀ d ∈ l, ∀ v H1, Ext H H1 → Is X.K H1 v (E d) → ∀ Dl, H Dl = none → (∃ o, H1 Dl = some o) → g v (wipe σ (own.map (·.2))) H1 fun σ2 H2 => H2 = H1 ∧ wipe σ2 (own.map (·.2)) = wipe σ (own.map (·.2)) ∧
      (∀ s H' C cl fp, ∀ R : It → Hp → Prop, (∀ J H5, Ext H1 H5 → Yl X.K J (wo H5 Dl) ((l2 d).map E2) → R J H5) → WI (Bk X scope s H' C cl fp) tg1 iter1 σ2 H1 R) ∧
      (∀ b ∈ l2 d, ∀ u H', Ext (wo H1 Dl) H' → Is X.K H' u (E2 b) → g1 u (wipe σ2 vs1) H' fun σ3 H6 => H6 = H' ∧ wipe σ3 vs1 = wipe σ2 vs1 ∧ ∀ s H'' C cl fp, Ev (Bk X scope s H'' C cl fp) σ3 H' elt (f d b)))
    (hn : ∀ d ∈ l, ∀ b ∈ l2 d, noLst (f d b) = true) {H1 : Hp} (e1 : Ext H H1) {Q : VK} (k : ∀ a H2, Ext H1 H2 → H1 a = none → Is X.K H2 (.ref a) (.lst (l.flatMap fun a => (l2 a).map (f a))) → Q (.ref a) H2) (hf : ∀ x, foldedSetIterable iter X.env x = pure x := by intro _; rfl) (hf1 : ∀ env x, foldedSetIterable iter1 env x = pure x := by intro _ _; rfl) :
    WE X (.ListComp elt [⟨tg, iter, [], 0⟩, ⟨tg1, iter1, [], 0⟩] scope pos) σ H1 Q :=
  WE.of (pe_lc2 hc hN WI.pi ok hv hg (fun s H C cl fp => pts_nil) (wi1 := bkI X scope tg1 iter1) (fun s H C cl fp => ⟨fun pins s' σ H R I h => (h _ _ _ _ _).run pins s' I⟩) hg1 (fun s H C cl fp => pts_nil) (te := bkE X scope elt) (fun s H C cl fp => ⟨fun pins s' σ H Q I h => (h _ _ _ _ _).run pins s' I⟩) hf hf1)
    (lc2_read f hi hz hm hm1 hs hn e1 k)
end
section
variable {X : Cx} {a b : Expr} {σ : L2.St} {H B : Hp} {pos p : Pos} {ds : List D} {d : D}
/-- a written place of a tuple of B -/
theorem evb_ixTc (j : Nat) {k : Nat} (hj : ds[j]? = some d) (h : EvB X σ H B a (.tup ds)) (x : Ext B H) : EvB X σ H B (.Subscript a (.Constant (.int j) k p) pos) d := fun H1 e1 Q q => WE.of (pe_ix ix_tup WE.pe pe_int (fun _ _ => rfl)) (h H1 e1 _ fun v H2 e2 hv => by
  cases hv with
  | @tup t vs _ hs ha =>
    obtain ⟨u, hu, hd⟩ := ha.get hj
    exact ⟨t, vs, _, u, rfl, rfl, sqT_mono (x.trans (e1.trans e2)) hs, atI_nat hu, q u H2 e2 hd⟩)
theorem evb_ixLc (j : Nat) {k : Nat} (hj : ds[j]? = some d) (h : EvB X σ H B a (.lst ds)) (x : Ext B H) : EvB X σ H B (.Subscript a (.Constant (.int j) k p) pos) d := fun H1 e1 Q q => WE.of (pe_ix ix_list WE.pe pe_int (fun _ _ => rfl)) (h H1 e1 _ fun v H2 e2 hv => by
  cases hv with
  | @lst t vs _ hs ha =>
    obtain ⟨u, hu, hd⟩ := ha.get hj
    exact ⟨t, vs, _, u, rfl, rfl, sqL_mono (x.trans (e1.trans e2)) hs, atI_nat hu, q u H2 e2 hd⟩)
end
end Wb
/-! The defs over books' cards and values. -/
namespace Wb
open PySem PySem.Spec L2
def bookC (m : Mn) (book : List Str) : Crd := book.foldl (fun c j => mul m.rooms.length c (jobC m j)) one
def firstIx (m : Mn) : List Nat := (List.range m.rooms.length).filter fun i => decide (m.at i ∈ m.firsts)
def lastIx (m : Mn) : List Nat := (List.range m.rooms.length).filter fun i => decide (m.at i ∈ m.lasts)
def valM (m : Mn) (f : Crd) : Wb.Mk := bestL ((firstIx m).flatMap fun i => (lastIx m).map fun j => f i j)
/-- a book -/
structure WfB (b : List Str) : Prop where
  small : b.length ≤ 1000
  word : ∀ j ∈ b, IsWord j
abbrev bookD (b : List Str) : D := .lst (b.map D.str)
section
variable {P : Program} {w : World} {K : PySem.W.Frag} {mg : Str → Option Value} {base : Heap}
theorem wi_var {X : Cx} {σ : L2.St} {H H1 : Hp} {Dl : Addr} {pos : Pos} {tg : Expr} {xs : List D} {R : It → Hp → Prop} (i : Nat) {x : Str} {v : V} (h : Is X.K H v (.lst xs)) (e : Ext H H1) (hD : H Dl = none) (k : ∀ J H5, Ext H1 H5 → Yl X.K J (wo H5 Dl) xs → R J H5) (hs : σ[i]? = some (some v) := by rfl) (hN : X.N[i]? = some x := by rfl) (hv : Vis X.env.scope x := by first | exact Or.inl rfl | exact Or.inr (Or.inl rfl) | exact Or.inr (Or.inr rfl))
    (hd : (x == ("__debug__" : Str)) = false := by decide) (hcd : (x == ("__classdict__" : Str)) = false := by decide) : WI X tg (.Name x pos) σ H1 R :=
  WI.of (pi_list WE.pe) (we_v i (by
    have hv2 := h.mono e
    have y := h.mono (e.wo hD)
    cases hv2 with
    | @lst a vs _ hq ha => exact ⟨a, rfl, ⟨vs, .of hq⟩, k _ H1 (Ext.refl _) (yl_list y)⟩) hs hN hv hd hcd)
/-! is_book, check_book -/
def Rbook : List D → D → Prop := fun ds d => ∃ b, WfB b ∧ ds = [bookD b] ∧ d = .bl true
abbrev N_is_book : List Str := ["value", "job"]
theorem kp_is_book (T : Top w K mg) : Kp P w K mg base "is_book" ["value"] [] 2 (spD K Rbook) := by
  have hN : N_is_book.Nodup := by decide +kernel
  refine kp_d (N := N_is_book) T 11 rfl ⟨rfl, rfl, rfl, hN, rfl, by decide +kernel, by decide +kernel⟩ (fun _ _ _ _ _ _ us hl => match us, hl with | [_], _ => rfl) (fun ds d ⟨b, _, h, _⟩ => by rw [h]; rfl) ?_
  rintro cdv A outer s H vs ds d Q E hr hv ⟨b, wf, rfl, rfl⟩ k
  obtain ⟨v0, rfl, h0⟩ := isAll1 hv
  refine wss_one (ws_ret ?_ k)
  refine ev_and (c := true) (d := true) (ev_isi T.f_isinstance T.f_list PyProof.Rows.boot_list (ev_v 0 h0) k_ll) fun _ => ?_
  refine ev_one (Ev.is (ev_allB (bs := b.map fun _ => true) rfl T.f_all (Ev.is (ev_lcN (l := b) (E := D.str) (own := [("job", 1)]) (g := gName 1) (fun _ => .bl true) rfl hN (blkOk_by (by kernel_rfl)) (EvIB.i (evi_list (evb_v 0 h0) (Ext.refl _)) (Ext.refl _)) (Nat.le_trans wf.small (by decide)) (fun _ _ _ _ _ => pgn 1 hN) gm_name ?_ (fun _ _ => noLst_bl _)) (by rw [List.map_map]; rfl))) (by simp))
  intro j hj v1 H1 e1 i1
  exact ⟨rfl, rfl, fun _ _ _ _ _ => ev_call (kp_is_spelt T) hr (eva_cons (ev_v 1 i1) eva_nil) (.inl ⟨j, rfl, wf.word j hj, rfl⟩)⟩
def RcheckB : List D → D → Prop := fun ds d => ∃ b, WfB b ∧ ds = [bookD b] ∧ d = .non
abbrev N_check_book : List Str := ["value"]
theorem kp_check_book (T : Top w K mg) : Kp P w K mg base "check_book" ["value"] [] 3 (spD K RcheckB) := by
  have hN : N_check_book.Nodup := by decide +kernel
  refine kp_d (N := N_check_book) T 12 rfl ⟨rfl, rfl, rfl, hN, rfl, by decide +kernel, by decide +kernel⟩ (fun _ _ _ _ _ _ us hl => match us, hl with | [_], _ => rfl) (fun ds d ⟨b, _, h, _⟩ => by rw [h]; rfl) ?_
  rintro cdv A outer s H vs ds d Q E hr hv ⟨b, wf, rfl, rfl⟩ k
  obtain ⟨v0, rfl, h0⟩ := isAll1 hv
  exact wss_one (ws_skip (evt_not (c := true) (evt_val (ev_call (kp_is_book T) hr (eva_cons (ev_v 0 h0) eva_nil) ⟨b, wf, rfl, rfl⟩))) fun H1 e1 => k _ H1 e1 .non)
/-! card_from, card_of -/
theorem bookC_snoc {m : Mn} {b : List Str} {j : Str} : bookC m (b ++ [j]) = mul m.rooms.length (bookC m b) (jobC m j) := by unfold bookC; rw [List.foldl_append]; rfl
def RcardF : List D → D → Prop := fun ds d => ∃ m b, WfM m ∧ ds = [.man m, bookD b] ∧ d = cardD m.rooms.length (bookC m b)
abbrev N_card_from : List Str := ["manual", "book", "card", "job"]
theorem kp_card_from (T : Top w K mg) : Kp P w K mg base "card_from" ["manual", "book"] [] 4 (spD K RcardF) := by
  have hN : N_card_from.Nodup := by decide +kernel
  refine kp_d (N := N_card_from) T 33 rfl ⟨rfl, rfl, rfl, hN, rfl, by decide +kernel, by decide +kernel⟩ (fun _ _ _ _ _ _ us hl => match us, hl with | [_, _], _ => rfl) (fun ds d ⟨m, b, _, h, _⟩ => by rw [h]; rfl) ?_
  rintro cdv A outer s H vs ds d Q E hr hv ⟨m, b, wf, rfl, rfl⟩ k
  obtain ⟨v0, v1, rfl, h0, h1⟩ := isAll2 hv
  refine wss_cons (ws_set hN (ev_call (kp_empty_card T) (hr.mono (by decide)) (eva_cons (ev_v 0 h0) eva_nil) ⟨m, wf, rfl, rfl⟩) (i := 2) fun v2 H1 e1 h2 => ?_)
  refine wss_cons (ws_forS PassesOwn.never rfl (B := H) (evs_list (evb_v 1 h1) e1) (pgn 3 hN) (fun i σ' H' => Ext H H' ∧ ∃ c x, σ' = [some v0, some v1, some c, x] ∧ Is K H' c (cardD m.rooms.length (bookC m (b.take i)))) (fun i σ' H' h => h.1) (fun H2 e2 => ⟨e1.trans e2, _, _, rfl, h2.mono e2⟩) ?_ ?_)
  · rintro i d σ' H' v hd ⟨e3, c, x, rfl, ic⟩ hv
    obtain ⟨j, hj, rfl⟩ := map_get hd
    refine wss_one (ws_set hN (ev_call (kp_joined T) (hr.mono (by decide)) (eva_cons (ev_v 2 ic) (eva_cons (ev_call (kp_job_card T) (hr.mono (by decide)) (eva_cons (ev_v 0 (h0.mono e3)) (eva_cons (ev_v 3 (hv.mono e3)) eva_nil)) ⟨m, j, wf, rfl, rfl⟩) eva_nil)) ⟨_, _, _, Nat.le_trans wf.small (by decide), rfl, rfl⟩) (i := 2) fun c' H2 e2 i2 => ?_)
    refine ⟨e3.trans e2, _, _, rfl, ?_⟩
    rw [take_succ' hj, bookC_snoc]
    exact i2
  · rintro σ' H' ⟨e3, c, x, rfl, ic⟩
    rw [List.length_map, List.take_length] at ic
    exact wss_one (ws_ret (ev_v 2 ic) fun v H2 e2 hv => k v H2 (e3.trans e2) hv)
def RcardO : List D → D → Prop := fun ds d => ∃ m b, WfM m ∧ WfB b ∧ ds = [.man m, bookD b] ∧ d = cardD m.rooms.length (bookC m b)
abbrev N_card_of : List Str := ["manual", "book"]
theorem kp_card_of (T : Top w K mg) : Kp P w K mg base "card_of" ["manual", "book"] [] 5 (spD K RcardO) := by
  have hN : N_card_of.Nodup := by decide +kernel
  refine kp_d (N := N_card_of) T 34 rfl ⟨rfl, rfl, rfl, hN, rfl, by decide +kernel, by decide +kernel⟩ (fun _ _ _ _ _ _ us hl => match us, hl with | [_, _], _ => rfl) (fun ds d ⟨m, b, _, _, h, _⟩ => by rw [h]; rfl) ?_
  rintro cdv A outer s H vs ds d Q E hr hv ⟨m, b, wf, wb, rfl, rfl⟩ k
  obtain ⟨v0, v1, rfl, h0, h1⟩ := isAll2 hv
  refine wss_cons (ws_expr (ev_call (kp_check_manual T) (hr.mono (by decide)) (eva_cons (ev_v 0 h0) eva_nil) ⟨m, rfl, rfl⟩) fun H1 e1 => ?_)
  refine wss_cons (ws_expr (ev_call (kp_check_book T) (hr.mono (by decide)) (eva_cons (ev_v 1 (h1.mono e1)) eva_nil) ⟨b, wb, rfl, rfl⟩) fun H2 e2 => ?_)
  have e := e1.trans e2
  exact wss_one (ws_ret (ev_call (kp_card_from T) (hr.mono (by decide)) (eva_cons (ev_v 0 (h0.mono e)) (eva_cons (ev_v 1 (h1.mono e)) eva_nil)) ⟨m, b, wf, rfl, rfl⟩) fun v H4 e4 hv => k v H4 (e.trans e4) hv)
/-! value_from, value_of -/
theorem enumRooms {m : Mn} : enumD (m.rooms.map D.str) = (List.range m.rooms.length).map fun i : Nat => .tup [.int (i : Int), .str (m.at i)] := by rw [map_at]; exact enumD_range
theorem flatMap_map {α β : Type} {l : List α} {l2 : List β} {f : α → β → Wb.Mk} : (l.flatMap fun a => l2.map fun b => mkD (f a b)) = (l.flatMap fun a => l2.map (f a)).map mkD := by
  rw [List.map_flatMap]
  congr 1
  funext a
  rw [List.map_map]; rfl
theorem flat_len {α β γ : Type} {l2 : List β} {f : α → β → γ} : ∀ l : List α, (l.flatMap fun a => l2.map (f a)).length = l.length * l2.length
  | [] => by simp
  | a :: l => by rw [List.flatMap_cons, List.length_append, flat_len l, List.length_map, List.length_cons, Nat.succ_mul]; omega
def Rval : List D → D → Prop := fun ds d => ∃ m f, WfM m ∧ ds = [.man m, cardD m.rooms.length f] ∧ d = mkD (valM m f)
abbrev N_value_from : List Str := ["manual", "card", "first", "at", "room", "last", "here", "there"]
theorem kp_value_from (T : Top w K mg) : Kp P w K mg base "value_from" ["manual", "card"] [] 2 (spD K Rval) := by
  have hN : N_value_from.Nodup := by decide +kernel
  refine kp_d (N := N_value_from) T 35 rfl ⟨rfl, rfl, rfl, hN, rfl, by decide +kernel, by decide +kernel⟩ (fun _ _ _ _ _ _ us hl => match us, hl with | [_, _], _ => rfl) (fun ds d ⟨m, f, _, h, _⟩ => by rw [h]; rfl) ?_
  rintro cdv A outer s H vs ds d Q E hr hv ⟨m, f, wf, rfl, rfl⟩ k
  obtain ⟨v0, v1, rfl, h0, h1⟩ := isAll2 hv
  have hz : (List.range m.rooms.length).length ≤ 100000 := by simpa using Nat.le_trans wf.small (by decide)
  refine wss_cons (ws_lcT 2 (l := List.range m.rooms.length) (E := fun i : Nat => .tup [.int (i : Int), .str (m.at i)]) (own := [("at", 3), ("room", 4)]) (g := gTup K 2 (gCons (gName 3) (gCons (gName 4) gNil))) (fun i => decide (m.at i ∈ m.firsts)) (fun i => .int (i : Nat)) hN (blkOk_by (by kernel_rfl)) ?_ hz (fun _ _ _ _ _ => pg2 3 4 rfl hN) gm2 ?_ (fun _ _ _ => noLst_int _) fun v2 H1 e1 h2 => ?_)
  · rw [← enumRooms]; exact evi_enumL T.f_enumerate (ev_rooms T (ev_v 0 h0))
  · intro i hi v H1 e1 hv
    refine gTup2 hv fun v3 v4 i3 i4 => ⟨rfl, rfl, fun _ _ _ _ _ => ?_, fun _ _ _ _ _ _ => ev_v 3 i3⟩
    exact evt_inSL (ev_v 4 i4) (ev_firsts T (ev_v 0 (h0.mono e1)))
  · refine wss_cons (ws_set hN (i := 5) (ev_lcT (l := List.range m.rooms.length) (E := fun i : Nat => .tup [.int (i : Int), .str (m.at i)]) (own := [("at", 3), ("room", 4)]) (g := gTup K 2 (gCons (gName 3) (gCons (gName 4) gNil))) (fun i => decide (m.at i ∈ m.lasts)) (fun i => .int (i : Nat)) rfl hN (blkOk_by (by kernel_rfl)) ?_ hz (fun _ _ _ _ _ => pg2 3 4 rfl hN) gm2 ?_ (fun _ _ _ => noLst_int _)) fun v5 H2 e2 h5 => ?_)
    · rw [← enumRooms]; exact evi_enumL T.f_enumerate (ev_rooms T (ev_v 0 (h0.mono e1)))
    · intro i hi v H2 e2 hv
      refine gTup2 hv fun v3 v4 i3 i4 => ⟨rfl, rfl, fun _ _ _ _ _ => ?_, fun _ _ _ _ _ _ => ev_v 3 i3⟩
      exact evt_inSL (ev_v 4 i4) (ev_lasts T (ev_v 0 (h0.mono (e1.trans e2))))
    · refine wss_one (ws_ret ?_ fun v H3 e3 hv => k v H3 (e1.trans (e2.trans e3)) hv)
      refine ev_call (kp_best_of T) hr (eva_cons (d := .lst (((firstIx m).flatMap fun i => (lastIx m).map fun j => f i j).map mkD)) ?_ eva_nil) ⟨_, rfl, rfl⟩
      rw [← flatMap_map]
      have h1' := h1.mono (e1.trans e2)
      have small : m.rooms.length ≤ 100 := Nat.le_trans wf.small (by decide)
      have f1 : (firstIx m).length ≤ 100 := Nat.le_trans (List.length_filter_le ..) (by simpa using small)
      have f2 : (lastIx m).length ≤ 100 := Nat.le_trans (List.length_filter_le ..) (by simpa using small)
      refine ev_lc2 (l := firstIx m) (E := fun i : Nat => .int (i : Int)) (l2 := fun _ => lastIx m) (E2 := fun i : Nat => .int (i : Int)) (own := [("here", 6), ("there", 7)]) (vs1 := [7]) (g := gName 6) (g1 := gName 7) (fun i j => mkD (f i j)) rfl hN (blkOk_by (by kernel_rfl)) (by decide) (EvIB.i (evi_list (evb_v 2 (h2.mono e2)) (Ext.refl _)) (Ext.refl _)) ?_ (fun _ _ _ _ _ => pgn 6 hN) (fun _ _ _ _ _ => pgn 7 hN) gm_name gm_name ?_ (fun _ _ _ _ => noLst_str _)
      · rw [flat_len]; exact Nat.le_trans (Nat.mul_le_mul f1 f2) (by decide)
      · intro i hi v6 H3 e3 h6 Dl hD _
        refine ⟨rfl, rfl, fun s' H' C cl fp R q => wi_var 5 h5 e3 hD q, fun j hj v7 H4 e4 h7 => ⟨rfl, rfl, fun _ _ _ _ _ => ?_⟩⟩
        have hin : i < m.rooms.length := List.mem_range.mp (List.mem_filter.mp hi).1
        have hjn : j < m.rooms.length := List.mem_range.mp (List.mem_filter.mp hj).1
        have h6' : Is K H4 v6 (.int (i : Int)) := by cases h6; exact .int _
        refine ev_ixT (ds := (List.range m.rooms.length).map fun j => mkD (f i j)) (j := j) ?_ (ev_ixT (ds := (List.range m.rooms.length).map fun i => rowD m.rooms.length (f i)) (j := i) ?_ (ev_v 1 (h1'.mono ((e3.wo hD).trans e4))) (ev_v 6 h6')) (ev_v 7 h7)
        · rw [List.getElem?_map, List.getElem?_range hjn]; rfl
        · rw [List.getElem?_map, List.getElem?_range hin]; rfl
abbrev N_value_of : List Str := ["manual", "card"]
theorem kp_value_of (T : Top w K mg) : Kp P w K mg base "value_of" ["manual", "card"] [] 4 (spD K Rval) := by
  have hN : N_value_of.Nodup := by decide +kernel
  refine kp_d (N := N_value_of) T 36 rfl ⟨rfl, rfl, rfl, hN, rfl, by decide +kernel, by decide +kernel⟩ (fun _ _ _ _ _ _ us hl => match us, hl with | [_, _], _ => rfl) (fun ds d ⟨m, f, _, h, _⟩ => by rw [h]; rfl) ?_
  rintro cdv A outer s H vs ds d Q E hr hv ⟨m, f, wf, rfl, rfl⟩ k
  obtain ⟨v0, v1, rfl, h0, h1⟩ := isAll2 hv
  refine wss_cons (ws_expr (ev_call (kp_check_manual T) (hr.mono (by decide)) (eva_cons (ev_v 0 h0) eva_nil) ⟨m, rfl, rfl⟩) fun H1 e1 => ?_)
  refine wss_cons (ws_expr (ev_call (kp_check_card T) (hr.mono (by decide)) (eva_cons (ev_v 0 (h0.mono e1)) (eva_cons (ev_v 1 (h1.mono e1)) eva_nil)) ⟨m, f, Nat.le_trans wf.small (by decide), rfl, rfl⟩) fun H2 e2 => ?_)
  have e := e1.trans e2
  exact wss_one (ws_ret (ev_call (kp_value_from T) (hr.mono (by decide)) (eva_cons (ev_v 0 (h0.mono e)) (eva_cons (ev_v 1 (h1.mono e)) eva_nil)) ⟨m, f, wf, rfl, rfl⟩) fun v H4 e4 hv => k v H4 (e.trans e4) hv)
/-! check_room, check_part -/
def RcheckR : List D → D → Prop := fun ds d => ∃ m r, WfM m ∧ r ∈ m.rooms ∧ ds = [.man m, .str r] ∧ d = .non
abbrev N_check_room : List Str := ["manual", "room"]
theorem kp_check_room (T : Top w K mg) : Kp P w K mg base "check_room" ["manual", "room"] [] 2 (spD K RcheckR) := by
  have hN : N_check_room.Nodup := by decide +kernel
  refine kp_d (N := N_check_room) T 10 rfl ⟨rfl, rfl, rfl, hN, rfl, by decide +kernel, by decide +kernel⟩ (fun _ _ _ _ _ _ us hl => match us, hl with | [_, _], _ => rfl) (fun ds d ⟨m, r, _, _, h, _⟩ => by rw [h]; rfl) ?_
  rintro cdv A outer s H vs ds d Q E hr hv ⟨m, r, wf, hr0, rfl, rfl⟩ k
  obtain ⟨v0, v1, rfl, h0, h1⟩ := isAll2 hv
  refine wss_one (ws_skip (EvW.t ?_) fun H1 e1 => k _ H1 e1 .non)
  refine EvW.is (evw_or (c := false) (d := false) (evt_not (c := true) (evt_val (ev_call (kp_is_spelt T) hr (eva_cons (ev_v 1 h1) eva_nil) (.inl ⟨r, rfl, wf.word r hr0, rfl⟩)))) fun _ => ?_) rfl
  exact evw_or1 (EvT.is (evt_niSL (ev_v 1 h1) (ev_rooms T (ev_v 0 h0))) (by rw [decide_eq_true hr0]; rfl))
def RcheckP : List D → D → Prop := fun ds d => ∃ m b r g, WfM m ∧ WfB b ∧ r ∈ m.rooms ∧ g ∈ m.rooms ∧ ds = [.man m, bookD b, .str r, .str g] ∧ d = .non
abbrev N_check_part : List Str := ["manual", "book", "room", "other"]
theorem kp_check_part (T : Top w K mg) : Kp P w K mg base "check_part" ["manual", "book", "room", "other"] [] 4 (spD K RcheckP) := by
  have hN : N_check_part.Nodup := by decide +kernel
  refine kp_d (N := N_check_part) T 37 rfl ⟨rfl, rfl, rfl, hN, rfl, by decide +kernel, by decide +kernel⟩ (fun _ _ _ _ _ _ us hl => match us, hl with | [_, _, _, _], _ => rfl) (fun ds d ⟨m, b, r, g, _, _, _, _, h, _⟩ => by rw [h]; rfl) ?_
  rintro cdv A outer s H vs ds d Q E hr hv ⟨m, b, r, g, wf, wb, hr1, hg1, rfl, rfl⟩ k
  obtain ⟨v0, v1, v2, v3, rfl, h0, h1, h2, h3⟩ := isAll4 hv
  refine wss_cons (ws_expr (ev_call (kp_check_manual T) (hr.mono (by decide)) (eva_cons (ev_v 0 h0) eva_nil) ⟨m, rfl, rfl⟩) fun H1 e1 => ?_)
  refine wss_cons (ws_expr (ev_call (kp_check_book T) (hr.mono (by decide)) (eva_cons (ev_v 1 (h1.mono e1)) eva_nil) ⟨b, wb, rfl, rfl⟩) fun H2 e2 => ?_)
  have e := e1.trans e2
  refine wss_cons (ws_expr (ev_call (kp_check_room T) (hr.mono (by decide)) (eva_cons (ev_v 0 (h0.mono e)) (eva_cons (ev_v 2 (h2.mono e)) eva_nil)) ⟨m, r, wf, hr1, rfl, rfl⟩) fun H3 e3 => ?_)
  have e' := e.trans e3
  exact wss_one (ws_expr (ev_call (kp_check_room T) (hr.mono (by decide)) (eva_cons (ev_v 0 (h0.mono e')) (eva_cons (ev_v 3 (h3.mono e')) eva_nil)) ⟨m, g, wf, hg1, rfl, rfl⟩) fun H4 e4 => k _ H4 (e'.trans e4) .non)
end
end Wb
/-! Data that equality walks. -/
namespace Wb
open PySem PySem.Spec L2
structure Shp (k : Nat) (d : PyData) : Prop where
  lay : d.canLay0 = true
  dep : d.depth ≤ k
theorem canAll : ∀ {ds : List PyData}, (∀ d ∈ ds, d.canLay0 = true) → PyData.canLayAll0 ds = true
  | [], _ => by rw [PyData.canLayAll0]
  | d :: ds, h => by rw [PyData.canLayAll0, h d (.head _), canAll fun e m => h e (.tail _ m)]; rfl
theorem depAll {k : Nat} : ∀ {ds : List PyData}, (∀ d ∈ ds, d.depth ≤ k) → PyData.depthAll ds ≤ k
  | [], _ => by rw [PyData.depthAll]; exact Nat.zero_le _
  | d :: ds, h => by rw [PyData.depthAll]; exact Nat.max_le.mpr ⟨h d (.head _), depAll fun e m => h e (.tail _ m)⟩
theorem Shp.tup {k : Nat} {ds : List PyData} (h : ∀ d ∈ ds, Shp k d) : Shp (k + 1) (.tuple ds) := ⟨by rw [PyData.canLay0]; exact canAll fun d m => (h d m).lay, by rw [PyData.depth]; exact Nat.succ_le_succ (depAll fun d m => (h d m).dep)⟩
theorem Shp.lst {k : Nat} {ds : List PyData} (h : ∀ d ∈ ds, Shp k d) : Shp (k + 1) (.list ds) := ⟨by rw [PyData.canLay0]; exact canAll fun d m => (h d m).lay, by rw [PyData.depth]; exact Nat.succ_le_succ (depAll fun d m => (h d m).dep)⟩
theorem Shp.str {x : PySem.Str} (h : (PyData.str x).canLay0 = true) : Shp 0 (.str x) := ⟨h, by rw [PyData.depth]; exact Nat.le_refl _⟩
theorem Shp.int {i : Int} : Shp 0 (.int i) := ⟨by rw [PyData.canLay0], by rw [PyData.depth]; exact Nat.le_refl _⟩
theorem Shp.none : Shp 0 .none := ⟨by rw [PyData.canLay0], by rw [PyData.depth]; exact Nat.le_refl _⟩
theorem Shp.mono {j k : Nat} {d : PyData} (s : Shp j d) (h : j ≤ k) : Shp k d := ⟨s.lay, Nat.le_trans s.dep h⟩
theorem Shp.ok {k : Nat} {d : PyData} (s : Shp k d) (h : k ≤ 64) : SeqAt.shaped d = true := by
  unfold SeqAt.shaped
  rw [s.lay, decide_eq_true (Nat.le_trans s.dep h)]; rfl
theorem shp_mk (a : Wb.Mk) : Shp 0 (.str (mkS a)) := .str (by cases a <;> decide +kernel)
theorem shp_card (n : Nat) (f : Crd) : Shp 2 (py (cardD n f)) := by
  rw [py_card]
  refine .tup fun d hd => ?_
  obtain ⟨i, _, rfl⟩ := List.mem_map.mp hd
  refine .tup fun d hd => ?_
  obtain ⟨j, _, rfl⟩ := List.mem_map.mp hd
  exact shp_mk _
section
variable {X : Cx} {a b : Expr} {σ : L2.St} {H : Hp} {pos : Pos} {n : Nat} {f g : Crd}
theorem evt_neC (hu : X.A.units + 64 < cLine) (h : Ev X σ H a (cardD n f)) (h2 : Ev X σ H b (cardD n g)) : EvT X σ H (.Compare a [.NotEq] [b] pos) (!decide (EqC n f g)) := by
  rw [← eqv_card]
  exact evt_cmp (op_neD hu) (r2_neD (plain_card n f) (plain_card n g) ((shp_card n f).ok (by decide)) ((shp_card n g).ok (by decide))) h h2
theorem ev_eqC (hu : X.A.units + 64 < cLine) (h : Ev X σ H a (cardD n f)) (h2 : Ev X σ H b (cardD n g)) : Ev X σ H (.Compare a [.Eq] [b] pos) (.bl (decide (EqC n f g))) := by
  rw [← eqv_card]
  exact ev_cmp (op_eqD hu) (r2_eqD (plain_card n f) (plain_card n g) ((shp_card n f).ok (by decide)) ((shp_card n g).ok (by decide))) h h2
end
/-! the steady power -/
instance (n : Nat) (f : Crd) : Decidable (Steady n f) := inferInstanceAs (Decidable (EqC n (mul n f f) f))
/-- the least k such that f's (k + 1) copies are steady -/
def stK (n : Nat) (f : Crd) : Nat := ((List.range (5 ^ (n * n) + 1)).find? fun k => decide (Steady n (pw n f k))).getD 0
theorem stK_spec (n : Nat) (f : Crd) : Steady n (pw n f (stK n f)) ∧ ∀ c, c < stK n f → ¬ Steady n (pw n f c) := by
  obtain ⟨k, hk, hs⟩ := steady_power n f
  have hsome : ((List.range (5 ^ (n * n) + 1)).find? fun k => decide (Steady n (pw n f k))).isSome = true := by
    rw [List.find?_isSome]
    exact ⟨k, List.mem_range.mpr (by omega), decide_eq_true hs⟩
  obtain ⟨r, hr⟩ := Option.isSome_iff_exists.mp hsome
  have e : stK n f = r := by unfold stK; rw [hr]; rfl
  rw [e]
  have hrs : decide (Steady n (pw n f r)) = true := List.find?_some (p := fun k => decide (Steady n (pw n f k))) hr
  refine ⟨of_decide_eq_true hrs, fun c hc q => ?_⟩
  obtain ⟨_, as, bs, hl, hb⟩ := List.find?_eq_some_iff_append.mp hr
  have hlen : as.length = r := by
    have h1 : (List.range (5 ^ (n * n) + 1))[as.length]? = some r := by rw [hl]; simp
    obtain ⟨h2, h3⟩ := List.getElem?_eq_some_iff.mp h1
    simpa using h3
  have hcm : c ∈ as := by
    have h1 : (List.range (5 ^ (n * n) + 1))[c]? = as[c]? := by rw [hl]; exact List.getElem?_append_left (by omega)
    have h2 : c < 5 ^ (n * n) + 1 := by
      have : as.length ≤ (List.range (5 ^ (n * n) + 1)).length := by rw [hl]; simp
      rw [List.length_range] at this
      omega
    rw [List.getElem?_range h2] at h1
    exact List.mem_of_getElem? h1.symm
  have := hb c hcm
  rw [decide_eq_true q] at this
  cases this
theorem stK_le (n : Nat) (f : Crd) : stK n f ≤ 5 ^ (n * n) := by
  obtain ⟨_, least⟩ := stK_spec n f
  obtain ⟨k, hk, hs⟩ := steady_power n f
  exact Nat.le_trans (Nat.le_of_not_lt fun z => least k z hs) hk
theorem stK_small {n : Nat} (f : Crd) (h : n ≤ 3) : stK n f ≤ 1953125 :=
  Nat.le_trans (stK_le n f) (Nat.le_trans (Nat.pow_le_pow_right (by decide) (Nat.mul_le_mul h h)) (by decide))
end Wb
/-! The defs over agains. -/
namespace Wb
open PySem PySem.Spec L2
def loopM (f : Crd) : Nat → Wb.Mk := fun t => if f t t = .some then .many else f t t
/-- the card of an again, from the steady power -/
def againS (n : Nat) (e : Crd) : Crd := mul n (fun i t => later (e i t) (loopM e t)) e
def againC (n : Nat) (f : Crd) : Crd := againS n (pw n f (stK n f))
section
variable {X : Cx} {a b : Expr} {σ : L2.St} {H : Hp} {pos : Pos} {Dn : Ends}
theorem isAll_ofInts {K : PySem.W.Frag} {H : Hp} : ∀ l : List Int, IsAll K H (l.map V.int) (l.map D.int)
  | [] => .nil
  | i :: l => .cons (.int i) (isAll_ofInts l)
theorem ev_listRg {n : Nat} {p p2 pos2 : Pos} (hm : X.mg "list" = none) (hm2 : X.mg "range" = none) (h : Ev X σ H a (.int (n : Nat))) (hn : n ≤ 100000) (hc : X.calm = true := by rfl) (hg : Gl X "list" := by rfl) (hg2 : Gl X "range" := by rfl) (hs : noStar a = true := by rfl) :
    Ev X σ H (.Call (.Name "list" p) [.Call (.Name "range" p2) [a] [] pos2] [] pos) (.lst ((List.range n).map fun i => .int (i : Nat))) := fun H1 e1 Q q =>
  WE.of (pe_listRg hc hg hm (prg_1 hg2 hm2 WE.pe (star_cons hs)) (star_cons rfl)) (h H1 e1 _ fun v H2 e2 hv => by
    cases hv
    refine ⟨_, rfl, .of_le (by decide) (by omega) (by decide) (by omega), fun p hp => q _ _ (e2.trans (Ext.new hp)) (.lst upd_same ?_)⟩
    have e : rgV 0 (n : Nat) = ((List.range n).map fun i : Nat => (i : Int)).map V.int := by
      unfold rgV
      rw [List.map_map]
      simp
    rw [e]
    have e2 : ((List.range n).map fun i : Nat => D.int (i : Int)) = ((List.range n).map fun i : Nat => (i : Int)).map D.int := by rw [List.map_map]; rfl
    rw [e2]
    exact isAll_ofInts _)
/-- x, y = a, b: two locals -/
theorem ws_par (i j : Nat) {x y : Str} {px py pt pt2 : Pos} {kt k2 : Nat} {d1 d2 : D} (hN : X.N.Nodup) (ha : Ev X σ H a d1) (hb : Ev X σ H b d2) (k : ∀ v1 v2 H1, Ext H H1 → Is X.K H1 v1 d1 → Is X.K H1 v2 d2 → Dn.nx ((σ.set i (some v1)).set j (some v2)) H1) (hc : X.calm = true := by rfl) (hi : X.N[i]? = some x := by rfl) (hj : X.N[j]? = some y := by rfl) (hij : i ≠ j := by decide)
    (hx : X.env.scope.names.lookup x = some .local := by rfl) (hy : X.env.scope.names.lookup y = some .local := by rfl) (hs1 : noStar a = true := by rfl) (hs2 : noStar b = true := by rfl)
    (hw : swappedStores [.Tuple [.Name x px, .Name y py] kt pt] (.Tuple [a, b] k2 pt2) X.env = pure (some [x, y]) := by rfl)
    (hs : swapsWithSole [.Tuple [.Name x px, .Name y py] kt pt] (.Tuple [a, b] k2 pt2) pos.line X.env = pure false := by rfl) : WS X (.Assign [.Tuple [.Name x px, .Name y py] kt pt] (.Tuple [a, b] k2 pt2) pos) Dn σ H :=
  WS.of (ps_par hc hN hi hj hij hx hy (pa_cons WE.pe (pa_cons WE.pe pa_nil (star_cons hs2)) (star_cons hs1)) hw hs) (ha H (Ext.refl _) _ fun v H1 e1 hv => hb H1 e1 _ fun u H2 e2 hu => ⟨v, u, rfl, k v u H2 (e1.trans e2) (hv.mono e2) hu⟩)
/-- .. through a tuple -/
theorem ws_par' (i j : Nat) {x y : Str} {px py pt pt2 : Pos} {kt k2 : Nat} {d1 d2 : D} (hN : X.N.Nodup) (ha : Ev X σ H a d1) (hb : Ev X σ H b d2) (k : ∀ v1 v2 H1, Ext H H1 → Is X.K H1 v1 d1 → Is X.K H1 v2 d2 → Dn.nx ((σ.set i (some v1)).set j (some v2)) H1) (hc : X.calm = true := by rfl) (hi : X.N[i]? = some x := by rfl) (hj : X.N[j]? = some y := by rfl)
    (hx : Loc X.env.scope x := by first | exact .inl rfl | exact .inr rfl) (hy : Loc X.env.scope y := by first | exact .inl rfl | exact .inr rfl) (hf : X.fn x = true ∨ X.env.scope.names.lookup x = some .local := by first | exact .inl rfl | exact .inr rfl) (hf2 : X.fn y = true ∨ X.env.scope.names.lookup y = some .local := by first | exact .inl rfl | exact .inr rfl) (hs1 : noStar a = true := by rfl) (hs2 : noStar b = true := by rfl)
    (hs : swapsWithSole [.Tuple [.Name x px, .Name y py] kt pt] (.Tuple [a, b] k2 pt2) pos.line X.env = pure false := by rfl) (hw : swappedStores [.Tuple [.Name x px, .Name y py] kt pt] (.Tuple [a, b] k2 pt2) X.env = pure none := by rfl) :
    WS X (.Assign [.Tuple [.Name x px, .Name y py] kt pt] (.Tuple [a, b] k2 pt2) pos) Dn σ H := by
  refine WS.of (ps_asg (WE.pe) (pg2 i j hc hN hi hj hx hy hf hf2) hs hw) ?_
  refine ev_tup (eva_cons ha (eva_cons hb eva_nil hs2) hs1) (by show 2 ≤ 100000; decide) H (Ext.refl _) _ fun v H1 e1 hv => ?_
  exact gTup2 hv fun v1 v2 h1 h2 => k v1 v2 H1 e1 h1 h2
end
section
variable {P : Program} {w : World} {K : PySem.W.Frag} {mg : Str → Option Value} {base : Heap}
/-! steady_from -/
def Rsteady : List D → D → Prop := fun ds d => ∃ n f, n ≤ 1000 ∧ ds = [cardD n f] ∧ d = .tup [.int ((stK n f : Nat) + 1 : Int), cardD n (pw n f (stK n f))]
abbrev N_steady_from : List Str := ["card", "power", "copies"]
theorem kp_steady_from (T : Top w K mg) : Kp P w K mg base "steady_from" ["card"] [] 4 (spD K Rsteady) := by
  have hN : N_steady_from.Nodup := by decide +kernel
  refine kp_d (N := N_steady_from) T 42 rfl ⟨rfl, rfl, rfl, hN, rfl, by decide +kernel, by decide +kernel⟩ (fun _ _ _ _ _ _ us hl => match us, hl with | [_], _ => rfl) (fun ds d ⟨n, f, _, h, _⟩ => by rw [h]; rfl) ?_
  rintro cdv A outer s H vs ds d Q E hr hv ⟨n, f, hn, rfl, rfl⟩ k
  obtain ⟨v0, rfl, h0⟩ := isAll1 hv
  obtain ⟨st, least⟩ := stK_spec n f
  refine wss_cons (ws_par 1 2 hN (ev_v 0 h0) ev_int fun v1 v2 H1 e1 i1 i2 => ?_)
  refine wss_cons (ws_while PassesOwn.never (fun m σ' H' => ∃ c w1 w2, c ≤ stK n f ∧ m = stK n f - c ∧ σ' = [some v0, some w1, some w2] ∧ Ext H H' ∧ Is K H' w1 (cardD n (pw n f c)) ∧ Is K H' w2 (.int ((c : Nat) + 1 : Int))) (stK n f) ⟨0, _, _, Nat.zero_le _, rfl, rfl, e1, i1, by rw [show ((0 : Nat) : Int) + 1 = 1 from rfl]; exact i2⟩ ?_)
  rintro m σ' H' ⟨c, w1, w2, hc, rfl, rfl, e2, j1, j2⟩
  refine ⟨_, evt_neC hr.units (ev_call (kp_joined T) hr (eva_cons (ev_v 1 j1) (eva_cons (ev_v 1 j1) eva_nil)) ⟨n, _, _, hn, rfl, rfl⟩) (ev_v 1 j1), fun q H2 e3 => ?_, fun q H2 e3 => ?_⟩
  · have ns : ¬ Steady n (pw n f c) := fun z => by
      rw [decide_eq_true (show EqC n (mul n (pw n f c) (pw n f c)) (pw n f c) from z)] at q; cases q
    have hc' : c < stK n f := Nat.lt_of_le_of_ne hc fun z => ns (by rw [z]; exact st)
    refine wss_one (ws_par 1 2 hN (ev_call (kp_joined T) hr (eva_cons (ev_v 1 (j1.mono e3)) (eva_cons (ev_v 0 (h0.mono (e2.trans e3))) eva_nil)) ⟨n, _, _, hn, rfl, rfl⟩) (ev_add (ev_v 2 (j2.mono e3)) ev_int) fun u1 u2 H3 e4 k1 k2 => ?_)
    refine ⟨stK n f - (c + 1), by omega, c + 1, _, _, hc', rfl, rfl, e2.trans (e3.trans e4), k1, ?_⟩
    have e : ((c + 1 : Nat) : Int) + 1 = (c : Int) + 1 + 1 := by omega
    rw [e]; exact k2
  · have s : Steady n (pw n f c) := by
      by_cases z : EqC n (mul n (pw n f c) (pw n f c)) (pw n f c)
      · exact z
      · rw [decide_eq_false z] at q; cases q
    have e : c = stK n f := Nat.le_antisymm hc (Nat.le_of_not_lt fun z => least c z s)
    subst e
    exact wss_one (ws_ret (ev_tup (eva_cons (ev_v 2 (j2.mono e3)) (eva_cons (ev_v 1 (j1.mono e3)) eva_nil)) (by show 2 ≤ 100000; decide)) fun v H3 e4 hv => k v H3 (e2.trans (e3.trans e4)) hv)
/-! again_from -/
def Ragain : List D → D → Prop := fun ds d => ∃ n f, n ≤ 1000 ∧ ds = [cardD n f] ∧ d = cardD n (againC n f)
abbrev N_again_from : List Str := ["card", "power", "many", "loops", "at", "ways", "row"]
theorem kp_again_from (T : Top w K mg) : Kp P w K mg base "again_from" ["card"] [] 5 (spD K Ragain) := by
  have hN : N_again_from.Nodup := by decide +kernel
  refine kp_d (N := N_again_from) T 43 rfl ⟨rfl, rfl, rfl, hN, rfl, by decide +kernel, by decide +kernel⟩ (fun _ _ _ _ _ _ us hl => match us, hl with | [_], _ => rfl) (fun ds d ⟨n, f, _, h, _⟩ => by rw [h]; rfl) ?_
  rintro cdv A outer s H vs ds d Q E hr hv ⟨n, f, hn, rfl, rfl⟩ k
  obtain ⟨v0, rfl, h0⟩ := isAll1 hv
  have hz : (List.range n).length ≤ 100000 := by simpa using Nat.le_trans hn (by decide)
  generalize he : pw n f (stK n f) = e
  refine wss_cons (ws_par' 1 2 hN (ev_ixTc 1 (d := cardD n e) rfl (ev_call (kp_steady_from T) hr (eva_cons (ev_v 0 h0) eva_nil) ⟨n, f, hn, rfl, by rw [he]⟩)) (ev_listRg T.f_list T.f_range (n := n) (Ev.is (ev_lenT T.f_len (ev_v 0 h0)) (by rw [len_cardD])) (by omega)) fun v1 v2 H1 e1 h1 h2 => ?_)
  have cell : ∀ {X : Cx} {σ : L2.St} {H : Hp} {a b : Expr} {pos : Pos} {r : Nat → Wb.Mk} {j : Nat}, j < n → Ev X σ H a (rowD n r) → Ev X σ H b (.int (j : Nat)) → (PlainIx b) → Ev X σ H (.Subscript a b pos) (mkD (r j)) := fun hj ha hb hp =>
    ev_ixT (ds := (List.range n).map fun j => mkD (_)) (by rw [List.getElem?_map, List.getElem?_range hj]; rfl) ha hb hp
  have row : ∀ {X : Cx} {σ : L2.St} {H : Hp} {a b : Expr} {pos : Pos} {f : Crd} {j : Nat}, j < n → Ev X σ H a (cardD n f) → Ev X σ H b (.int (j : Nat)) → (PlainIx b) → Ev X σ H (.Subscript a b pos) (rowD n (f j)) := fun hj ha hb hp =>
    ev_ixT (ds := (List.range n).map fun j => rowD n (_)) (by rw [List.getElem?_map, List.getElem?_range hj]; rfl) ha hb hp
  refine wss_cons (ws_set hN (i := 3) (ev_lcN (l := List.range n) (E := fun t : Nat => .int (t : Int)) (own := [("at", 4)]) (g := gName 4) (fun t => mkD (loopM e t)) rfl hN (blkOk_by (by kernel_rfl)) (EvIB.i (evi_list (evb_v 2 h2) (Ext.refl _)) (Ext.refl _)) hz (fun _ _ _ _ _ => pgn 4 hN) gm_name ?_ (fun _ _ => noLst_str _)) fun v3 H2 e2 h3 => ?_)
  · intro t ht v4 H2 e2 h4
    have htn : t < n := List.mem_range.mp ht
    refine ⟨rfl, rfl, fun _ _ _ _ _ => ?_⟩
    have hc := fun (s : Shared) (H' : Hp) (C : Addr) (cl : List (Str × Addr)) (fp : List Addr) => h1.mono e2
    refine ev_ifExp (c := decide (e t t = .some)) (EvT.is (evt_eqS (cell htn (row htn (ev_v 1 (h1.mono e2)) (ev_v 4 h4) (fun _ _ => rfl)) (ev_v 4 h4) (fun _ _ => rfl)) ev_str) (mkS_eq _ .some)) (fun c => Ev.is ev_str ?_) (fun c => Ev.is (cell htn (row htn (ev_v 1 (h1.mono e2)) (ev_v 4 h4) (fun _ _ => rfl)) (ev_v 4 h4) (fun _ _ => rfl)) ?_)
    · rw [loopM, if_pos (of_decide_eq_true c)]; rfl
    · rw [loopM, if_neg (of_decide_eq_false c)]
  · replace h1 := h1.mono e2
    replace h2 := h2.mono e2
    refine wss_cons (ws_lcN 5 (l := List.range n) (E := fun i => rowD n (e i)) (own := [("row", 6)]) (g := gName 6) (fun i => rowD n fun t => later (e i t) (loopM e t)) hN (blkOk_by (by kernel_rfl)) (EvIB.i (evi_tup (evb_v 1 h1) (Ext.refl _)) (Ext.refl _)) hz (fun _ _ _ _ _ => pgn 6 hN) gm_name ?_ (fun _ _ => noLst_rowD _ _) fun v5 H3 e3 h5 => ?_)
    · intro i hi v6 H3 e3 h6
      refine ⟨rfl, rfl, fun s' H' C cl fp => ev_tupleL T.f_tuple ?_⟩
      refine ev_lcN (l := List.range n) (E := fun t : Nat => .int (t : Int)) (own := [("at", 4)]) (g := gName 4) (fun t => mkD (later (e i t) (loopM e t))) rfl hN (blkOk_by (by kernel_rfl)) (EvIB.i (evi_list (evb_v 2 (h2.mono e3)) (Ext.refl _)) (Ext.refl _)) hz (fun _ _ _ _ _ => pgn 4 hN) gm_name ?_ (fun _ _ => noLst_str _)
      intro t ht v4 H4 e4 h4
      have htn : t < n := List.mem_range.mp ht
      refine ⟨rfl, rfl, fun _ _ _ _ _ => ?_⟩
      refine ev_call (kp_later T) (hr.mono (by decide)) (eva_cons (cell htn (ev_v 6 (h6.mono e4)) (ev_v 4 h4) (fun _ _ => rfl)) (eva_cons ?_ eva_nil)) ⟨_, _, rfl, rfl⟩
      exact ev_ixL (ds := (List.range n).map fun t => mkD (loopM e t)) (by rw [List.getElem?_map, List.getElem?_range htn]; rfl) (ev_v 3 (h3.mono (e3.trans e4))) (ev_v 4 h4)
    · refine wss_one (ws_ret (ev_call (kp_joined T) (hr.mono (by decide)) (eva_cons (ev_tupleL T.f_tuple (ev_v 5 h5)) (eva_cons (ev_v 1 (h1.mono e3)) eva_nil)) ⟨n, fun i t => later (e i t) (loopM e t), e, hn, rfl, ?_⟩) fun v H4 e4 hv => k v H4 (e1.trans (e2.trans (e3.trans e4))) hv)
      rw [againC, he]; rfl
end
end Wb
/-! The defs over expressions. -/
namespace Wb
open PySem PySem.Spec L2
inductive Ex where
  | job (s : Str)
  | row (es : List Ex)
  | again (e : Ex)
mutual
def Ex.d : Ex → D
  | .job s => .str s
  | .row es => .tup [.str "row", .lst (Ex.ds es)]
  | .again e => .tup [.str "again", e.d]
def Ex.ds : List Ex → List D
  | [] => []
  | e :: es => e.d :: Ex.ds es
end
mutual
def Ex.dep : Ex → Nat
  | .job _ => 0
  | .row es => Ex.deps es + 1
  | .again e => e.dep + 1
def Ex.deps : List Ex → Nat
  | [] => 0
  | e :: es => max e.dep (Ex.deps es)
end
mutual
/-- words, and rows that are not long -/
def Ex.wf : Ex → Prop
  | .job s => IsWord s
  | .row es => es.length ≤ 100 ∧ Ex.wfs es
  | .again e => e.wf
def Ex.wfs : List Ex → Prop
  | [] => True
  | e :: es => e.wf ∧ Ex.wfs es
end
mutual
def exC (m : Mn) : Ex → Crd
  | .job s => jobC m s
  | .row es => exCs m one es
  | .again e => againC m.rooms.length (exC m e)
def exCs (m : Mn) (c : Crd) : List Ex → Crd
  | [] => c
  | e :: es => exCs m (mul m.rooms.length c (exC m e)) es
end
theorem Ex.ds_map : ∀ es : List Ex, Ex.ds es = es.map Ex.d
  | [] => by rw [Ex.ds]; rfl
  | e :: es => by rw [Ex.ds, Ex.ds_map es]; rfl
theorem Ex.dep_mem : ∀ {es : List Ex} {e : Ex}, e ∈ es → e.dep ≤ Ex.deps es
  | x :: es, e, h => by
    rw [Ex.deps]
    rcases List.mem_cons.mp h with rfl | h
    · exact Nat.le_max_left _ _
    · exact Nat.le_trans (Ex.dep_mem h) (Nat.le_max_right _ _)
theorem Ex.wf_mem : ∀ {es : List Ex} {e : Ex}, Ex.wfs es → e ∈ es → e.wf
  | x :: es, e, w, h => by
    rw [Ex.wfs] at w
    rcases List.mem_cons.mp h with rfl | h
    · exact w.1
    · exact Ex.wf_mem w.2 h
theorem exCs_snoc (m : Mn) : ∀ (es : List Ex) (c : Crd) (e : Ex), exCs m c (es ++ [e]) = mul m.rooms.length (exCs m c es) (exC m e)
  | [], c, e => by show exCs m c [e] = _; rw [exCs, exCs, exCs]
  | x :: es, c, e => by show exCs m c (x :: (es ++ [e])) = _; rw [exCs, exCs_snoc m es, exCs]
section
variable {P : Program} {w : World} {K : PySem.W.Frag} {mg : Str → Option Value} {base : Heap}
/-! is_written_as, check_expression -/
def Riw (k : Nat) : List D → D → Prop := fun ds d => ∃ e : Ex, e.wf ∧ e.dep ≤ k ∧ ds = [e.d, .bl false] ∧ d = .bl true
section
variable {X : Cx} {a b : Expr} {σ : L2.St} {H : Hp} {pos p : Pos}
/-- `is_spelt(value) or (places and ..)` -/
theorem evw_word {i j : Nat} {r1 : List Expr} {p2 : Pos} {c : Bool} (h1 : EvT X σ H a c) (h2 : c = false → EvT X σ H b false) : EvW X σ H (.BoolOp .Or [a, .BoolOp .And (b :: e0 :: r1) p] p2) c := by
  refine EvW.is (evw_or (c := c) (d := false) h1 fun q => evw_or1 (EvW.t (EvW.is (evw_and (c := false) (d := false) (h2 q) fun z => by cases z) rfl))) (by cases c <;> rfl)
end
theorem evt_v {X : Cx} {σ : L2.St} {H : Hp} {pos : Pos} (i : Nat) {x : Str} {v : V} {c : Bool} (h : Is X.K H v (.bl c)) (hs : σ[i]? = some (some v) := by rfl) (hN : X.N[i]? = some x := by rfl) (hv : Vis X.env.scope x := by first | exact Or.inl rfl | exact Or.inr (Or.inl rfl) | exact Or.inr (Or.inr rfl))
    (hd : (x == ("__debug__" : Str)) = false := by decide) (hcd : (x == ("__classdict__" : Str)) = false := by decide) : EvT X σ H (.Name x pos) c := evt_val (ev_v i h hs hN hv hd hcd)
theorem kp_is_written_as_of (T : Top w K mg) (k : Nat) (ih : ∀ j, j + 1 = k → Kp P w K mg base "is_written_as" ["value", "places"] [] (j + 2) (spD K (Riw j))) : Kp P w K mg base "is_written_as" ["value", "places"] [] (k + 2) (spD K (Riw k)) := by
  have hN : (["value", "places", "one"] : List Str).Nodup := by decide +kernel
  refine kp_d (N := ["value", "places", "one"]) T 44 rfl ⟨rfl, rfl, rfl, hN, rfl, by decide +kernel, by decide +kernel⟩ (fun _ _ _ _ _ _ us hl => match us, hl with | [_, _], _ => rfl) (fun ds d ⟨e, _, _, h, _⟩ => by rw [h]; rfl) ?_
  rintro cdv A outer s H vs ds d Q E hr hv ⟨e, wf, dk, rfl, rfl⟩ kk
  obtain ⟨v0, v1, rfl, h0, h1⟩ := isAll2 hv
  cases e with
  | job x =>
    rw [Ex.wf] at wf
    have h0 : Is K H v0 (.str x) := by rw [Ex.d] at h0; exact h0
    refine wss_cons (ws_if (c := true) (EvW.t (evw_word (i := 0) (j := 0) (evt_val (ev_call (kp_is_spelt T) (hr.mono (by omega)) (eva_cons (ev_v 0 h0) eva_nil) (.inl ⟨x, rfl, wf, rfl⟩))) fun z => by cases z)) (fun _ H1 e1 => ?_) fun z => by cases z)
    exact wss_one (ws_ret ev_bl fun v H2 e2 hv => kk v H2 (e1.trans e2) hv)
  | again x =>
    rw [Ex.wf] at wf
    rw [Ex.dep] at dk
    have h0 : Is K H v0 (.tup [.str "again", x.d]) := by rw [Ex.d] at h0; exact h0
    refine wss_cons (ws_skip (EvW.t (evw_word (i := 0) (j := 0) (evt_val (ev_call (kp_is_spelt T) (hr.mono (by omega)) (eva_cons (ev_v 0 h0) eva_nil) (.inr ⟨_, rfl, rfl⟩))) fun _ => evt_v 1 h1)) fun H1 e1 => ?_)
    replace h0 := h0.mono e1
    refine wss_cons (ws_skip (EvW.t ?_) fun H2 e2 => ?_)
    · refine EvW.is (evw_or (c := false) (d := false) (evt_not (c := true) (evt_val (ev_isi T.f_isinstance T.f_tuple PyProof.Rows.boot_tuple (ev_v 0 h0) k_tt))) fun _ => ?_) rfl
      refine EvW.is (evw_or (c := false) (d := false) (EvT.is (evt_neI (ev_lenT T.f_len (ev_v 0 h0)) ev_int) rfl) fun _ => ?_) rfl
      exact evw_or1 (evt_not (c := true) (evt_val (ev_isi T.f_isinstance T.f_str PyProof.Rows.boot_str (ev_ixTc 0 (d := .str "again") rfl (ev_v 0 h0)) k_ss)))
    replace h0 := h0.mono e2
    refine wss_cons (ws_if (c := true) (EvT.is (evt_eqS (ev_ixTc 0 (d := .str "again") rfl (ev_v 0 h0)) ev_str) (decide_eq_true rfl)) (fun _ H3 e3 => ?_) fun z => by cases z)
    have ee := e1.trans (e2.trans e3)
    obtain ⟨j, rfl⟩ : ∃ j, k = j + 1 := ⟨k - 1, by omega⟩
    exact wss_one (ws_ret (ev_call (ih j rfl) (hr.mono (by omega)) (eva_cons (ev_ixTc 1 (d := x.d) rfl (ev_v 0 (h0.mono e3))) (eva_cons (ev_v 1 (h1.mono ee)) eva_nil)) ⟨x, wf, by omega, rfl, rfl⟩) fun v H4 e4 hv => kk v H4 (ee.trans e4) hv)
  | row es =>
    rw [Ex.wf] at wf
    rw [Ex.dep] at dk
    have h0 : Is K H v0 (.tup [.str "row", .lst (es.map Ex.d)]) := by rw [Ex.d, Ex.ds_map] at h0; exact h0
    refine wss_cons (ws_skip (EvW.t (evw_word (i := 0) (j := 0) (evt_val (ev_call (kp_is_spelt T) (hr.mono (by omega)) (eva_cons (ev_v 0 h0) eva_nil) (.inr ⟨_, rfl, rfl⟩))) fun _ => evt_v 1 h1)) fun H1 e1 => ?_)
    replace h0 := h0.mono e1
    refine wss_cons (ws_skip (EvW.t ?_) fun H2 e2 => ?_)
    · refine EvW.is (evw_or (c := false) (d := false) (evt_not (c := true) (evt_val (ev_isi T.f_isinstance T.f_tuple PyProof.Rows.boot_tuple (ev_v 0 h0) k_tt))) fun _ => ?_) rfl
      refine EvW.is (evw_or (c := false) (d := false) (EvT.is (evt_neI (ev_lenT T.f_len (ev_v 0 h0)) ev_int) rfl) fun _ => ?_) rfl
      exact evw_or1 (evt_not (c := true) (evt_val (ev_isi T.f_isinstance T.f_str PyProof.Rows.boot_str (ev_ixTc 0 (d := .str "row") rfl (ev_v 0 h0)) k_ss)))
    replace h0 := h0.mono e2
    refine wss_cons (ws_skip (EvT.is (evt_eqS (ev_ixTc 0 (d := .str "row") rfl (ev_v 0 h0)) ev_str) (by decide +kernel)) fun H3 e3 => ?_)
    replace h0 := h0.mono e3
    have ee := e1.trans (e2.trans e3)
    replace h1 := h1.mono ee
    obtain ⟨j, rfl⟩ : ∃ j, k = j + 1 := ⟨k - 1, by omega⟩
    refine wss_one (ws_ret ?_ fun v H4 e4 hv => kk v H4 (ee.trans e4) hv)
    refine Ev.is (ev_and (c := true) (d := true) (Ev.is (ev_eqS (ev_ixTc 0 (d := .str "row") rfl (ev_v 0 h0)) ev_str) (by rw [decide_eq_true rfl])) fun _ => ?_) rfl
    refine Ev.is (ev_and (c := true) (d := true) (ev_isi T.f_isinstance T.f_list PyProof.Rows.boot_list (ev_ixTc 1 (d := .lst (es.map Ex.d)) rfl (ev_v 0 h0)) k_ll) fun _ => ?_) rfl
    refine ev_one (Ev.is (ev_allB (bs := es.map fun _ => true) rfl T.f_all (Ev.is (ev_lcN (l := es) (E := Ex.d) (own := [("one", 2)]) (g := gName 2) (fun _ => .bl true) rfl hN (blkOk_by (by kernel_rfl)) (evi_listF (ev_ixTc 1 (d := .lst (es.map Ex.d)) rfl (ev_v 0 h0))) (Nat.le_trans wf.1 (by decide)) (fun _ _ _ _ _ => pgn 2 hN) gm_name ?_ (fun _ _ => noLst_bl _)) (by rw [List.map_map]; rfl))) (by simp))
    intro x hx v2 H4 e4 i2
    have := Ex.dep_mem hx
    exact ⟨rfl, rfl, fun _ _ _ _ _ => ev_call (ih j rfl) (hr.mono (by omega)) (eva_cons (ev_v 2 i2) (eva_cons (ev_v 1 (h1.mono e4)) eva_nil)) ⟨x, Ex.wf_mem wf.2 hx, by omega, rfl, rfl⟩⟩
theorem kp_is_written_as (T : Top w K mg) : ∀ k, Kp P w K mg base "is_written_as" ["value", "places"] [] (k + 2) (spD K (Riw k))
  | 0 => kp_is_written_as_of T 0 fun j h => by cases h
  | k + 1 => kp_is_written_as_of T (k + 1) fun j h => by cases h; exact kp_is_written_as T k
def RcheckE (k : Nat) : List D → D → Prop := fun ds d => ∃ e : Ex, e.wf ∧ e.dep ≤ k ∧ ds = [e.d, .bl false] ∧ d = .non
abbrev N_check_expression : List Str := ["value", "places"]
theorem kp_check_expression (T : Top w K mg) : Kp P w K mg base "check_expression" ["value", "places"] [] 15 (spD K (RcheckE 12)) := by
  have hN : N_check_expression.Nodup := by decide +kernel
  refine kp_d (N := N_check_expression) T 45 rfl ⟨rfl, rfl, rfl, hN, rfl, by decide +kernel, by decide +kernel⟩ (fun _ _ _ _ _ _ us hl => match us, hl with | [_, _], _ => rfl) (fun ds d ⟨e, _, _, h, _⟩ => by rw [h]; rfl) ?_
  rintro cdv A outer s H vs ds d Q E hr hv ⟨e, wf, dk, rfl, rfl⟩ k
  obtain ⟨v0, v1, rfl, h0, h1⟩ := isAll2 hv
  exact wss_one (ws_skip (evt_not (c := true) (evt_val (ev_call (kp_is_written_as T 12) hr (eva_cons (ev_v 0 h0) (eva_cons (ev_v 1 h1) eva_nil)) ⟨e, wf, dk, rfl, rfl⟩))) fun H1 e1 => k _ H1 e1 .non)
/-! expression_card_from -/
def Rexc (k : Nat) : List D → D → Prop := fun ds d => ∃ (m : Mn) (e : Ex), WfM m ∧ e.wf ∧ e.dep ≤ k ∧ ds = [.man m, e.d] ∧ d = cardD m.rooms.length (exC m e)
theorem kp_excard_of (T : Top w K mg) (k : Nat) (ih : ∀ j, j + 1 = k → Kp P w K mg base "expression_card_from" ["manual", "expression"] [] (j + 6) (spD K (Rexc j))) : Kp P w K mg base "expression_card_from" ["manual", "expression"] [] (k + 6) (spD K (Rexc k)) := by
  have hN : (["manual", "expression", "card", "part"] : List Str).Nodup := by decide +kernel
  refine kp_d (N := ["manual", "expression", "card", "part"]) T 46 rfl ⟨rfl, rfl, rfl, hN, rfl, by decide +kernel, by decide +kernel⟩ (fun _ _ _ _ _ _ us hl => match us, hl with | [_, _], _ => rfl) (fun ds d ⟨m, e, _, _, _, h, _⟩ => by rw [h]; rfl) ?_
  rintro cdv A outer s H vs ds d Q E hr hv ⟨m, e, wm, wf, dk, rfl, rfl⟩ kk
  obtain ⟨v0, v1, rfl, h0, h1⟩ := isAll2 hv
  have small : m.rooms.length ≤ 1000 := Nat.le_trans wm.small (by decide)
  cases e with
  | job x =>
    rw [Ex.wf] at wf
    have h1 : Is K H v1 (.str x) := by rw [Ex.d] at h1; exact h1
    refine wss_cons (ws_if (c := true) (evt_val (ev_call (kp_is_spelt T) (hr.mono (by omega)) (eva_cons (ev_v 1 h1) eva_nil) (.inl ⟨x, rfl, wf, rfl⟩))) (fun _ H1 e1 => ?_) fun z => by cases z)
    exact wss_one (ws_ret (ev_call (kp_job_card T) (hr.mono (by omega)) (eva_cons (ev_v 0 (h0.mono e1)) (eva_cons (ev_v 1 (h1.mono e1)) eva_nil)) ⟨m, x, wm, rfl, by rw [exC]⟩) fun v H2 e2 hv => kk v H2 (e1.trans e2) hv)
  | again x =>
    rw [Ex.wf] at wf
    rw [Ex.dep] at dk
    have h1 : Is K H v1 (.tup [.str "again", x.d]) := by rw [Ex.d] at h1; exact h1
    obtain ⟨j, rfl⟩ : ∃ j, k = j + 1 := ⟨k - 1, by omega⟩
    refine wss_cons (ws_skip (evt_val (ev_call (kp_is_spelt T) (hr.mono (by omega)) (eva_cons (ev_v 1 h1) eva_nil) (.inr ⟨_, rfl, rfl⟩))) fun H1 e1 => ?_)
    refine wss_cons (ws_if (c := true) (EvT.is (evt_eqS (ev_ixTc 0 (d := .str "again") rfl (ev_v 1 (h1.mono e1))) ev_str) (decide_eq_true rfl)) (fun _ H2 e2 => ?_) fun z => by cases z)
    have ee := e1.trans e2
    refine wss_one (ws_ret (ev_call (kp_again_from T) (hr.mono (by omega)) (eva_cons (ev_call (ih j rfl) (hr.mono (by omega)) (eva_cons (ev_v 0 (h0.mono ee)) (eva_cons (ev_ixTc 1 (d := x.d) rfl (ev_v 1 (h1.mono ee))) eva_nil)) ⟨m, x, wm, wf, by omega, rfl, rfl⟩) eva_nil) ⟨_, _, small, rfl, by rw [exC]⟩) fun v H4 e4 hv => kk v H4 (ee.trans e4) hv)
  | row es =>
    rw [Ex.wf] at wf
    rw [Ex.dep] at dk
    have h1 : Is K H v1 (.tup [.str "row", .lst (es.map Ex.d)]) := by rw [Ex.d, Ex.ds_map] at h1; exact h1
    obtain ⟨j, rfl⟩ : ∃ j, k = j + 1 := ⟨k - 1, by omega⟩
    refine wss_cons (ws_skip (evt_val (ev_call (kp_is_spelt T) (hr.mono (by omega)) (eva_cons (ev_v 1 h1) eva_nil) (.inr ⟨_, rfl, rfl⟩))) fun H1 e1 => ?_)
    refine wss_cons (ws_skip (EvT.is (evt_eqS (ev_ixTc 0 (d := .str "row") rfl (ev_v 1 (h1.mono e1))) ev_str) (by decide +kernel)) fun H2 e2 => ?_)
    have e12 := e1.trans e2
    refine wss_cons (ws_set hN (ev_call (kp_empty_card T) (hr.mono (by omega)) (eva_cons (ev_v 0 (h0.mono e12)) eva_nil) ⟨m, wm, rfl, rfl⟩) (i := 2) fun v2 H3 e3 h2 => ?_)
    have e13 := e12.trans e3
    have hB : EvB (Cd P w K mg base ["manual", "expression", "card", "part"] "expression_card_from" s_expression_card_from cdv A outer s H E) [some v0, some v1, some v2, none] H3 H (.Subscript (.Name "expression" ⟨0, 0, 0, 0⟩) (.Constant (.int 1) 0 ⟨0, 0, 0, 0⟩) ⟨0, 0, 0, 0⟩) (.lst (es.map Ex.d)) → True := fun _ => trivial
    refine wss_cons (ws_forS PassesOwn.never rfl (B := H) (xs := es.map Ex.d) (evs_list (evb_ixTc 1 rfl (evb_v 1 h1) e13) e13) (pgn 3 hN) (fun i σ' H' => Ext H H' ∧ ∃ c x, σ' = [some v0, some v1, some c, x] ∧ Is K H' c (cardD m.rooms.length (exCs m one (es.take i)))) (fun i σ' H' h => h.1) (fun H4 e4 => ⟨e13.trans e4, _, _, rfl, by rw [List.take_zero, exCs]; exact h2.mono e4⟩) ?_ ?_)
    · rintro i d σ' H' v hd ⟨e5, c, x0, rfl, ic⟩ hv
      obtain ⟨x, hx, rfl⟩ := map_get hd
      have hxm := List.mem_of_getElem? hx
      have := Ex.dep_mem hxm
      refine wss_one (ws_set hN (ev_call (kp_joined T) (hr.mono (by omega)) (eva_cons (ev_v 2 ic) (eva_cons (ev_call (ih j rfl) (hr.mono (by omega)) (eva_cons (ev_v 0 (h0.mono e5)) (eva_cons (ev_v 3 (hv.mono e5)) eva_nil)) ⟨m, x, wm, Ex.wf_mem wf.2 hxm, by omega, rfl, rfl⟩) eva_nil)) ⟨_, _, _, small, rfl, rfl⟩) (i := 2) fun c' H6 e6 i6 => ?_)
      refine ⟨e5.trans e6, _, _, rfl, ?_⟩
      rw [take_succ' hx, exCs_snoc]
      exact i6
    · rintro σ' H' ⟨e5, c, x0, rfl, ic⟩
      rw [List.length_map, List.take_length] at ic
      exact wss_one (ws_ret (Ev.is (ev_v 2 ic) (by rw [exC])) fun v H6 e6 hv => kk v H6 (e5.trans e6) hv)
theorem kp_excard (T : Top w K mg) : ∀ k, Kp P w K mg base "expression_card_from" ["manual", "expression"] [] (k + 6) (spD K (Rexc k))
  | 0 => kp_excard_of T 0 fun j h => by cases h
  | k + 1 => kp_excard_of T (k + 1) fun j h => by cases h; exact kp_excard T k
abbrev N_expression_card : List Str := ["manual", "expression"]
theorem kp_expression_card (T : Top w K mg) : Kp P w K mg base "expression_card" ["manual", "expression"] [] 19 (spD K (Rexc 12)) := by
  have hN : N_expression_card.Nodup := by decide +kernel
  refine kp_d (N := N_expression_card) T 47 rfl ⟨rfl, rfl, rfl, hN, rfl, by decide +kernel, by decide +kernel⟩ (fun _ _ _ _ _ _ us hl => match us, hl with | [_, _], _ => rfl) (fun ds d ⟨m, e, _, _, _, h, _⟩ => by rw [h]; rfl) ?_
  rintro cdv A outer s H vs ds d Q E hr hv ⟨m, e, wm, wf, dk, rfl, rfl⟩ k
  obtain ⟨v0, v1, rfl, h0, h1⟩ := isAll2 hv
  refine wss_cons (ws_expr (ev_call (kp_check_manual T) (hr.mono (by decide)) (eva_cons (ev_v 0 h0) eva_nil) ⟨m, rfl, rfl⟩) fun H1 e1 => ?_)
  refine wss_cons (ws_expr (ev_call (kp_check_expression T) (hr.mono (by decide)) (eva_cons (ev_v 1 (h1.mono e1)) (eva_cons ev_bl eva_nil)) ⟨e, wf, dk, rfl, rfl⟩) fun H2 e2 => ?_)
  have ee := e1.trans e2
  exact wss_one (ws_ret (ev_call (kp_excard T 12) (hr.mono (by decide)) (eva_cons (ev_v 0 (h0.mono ee)) (eva_cons (ev_v 1 (h1.mono ee)) eva_nil)) ⟨m, e, wm, wf, dk, rfl, rfl⟩) fun v H4 e4 hv => k v H4 (ee.trans e4) hv)
/-! kind_from, kind_of -/
def kindS : Wb.Mk → Str
  | .never => "never" | .many => "grows" | _ => "bounded"
def kindKvs : List (L2.Key × V) := [(Sum.inr "never", .str "never"), (Sum.inr "many", .str "grows")]
theorem kind_get (x : Wb.Mk) : (valV (mergeK [] kindKvs) (Sum.inr (mkS x))).getD (.str "bounded") = .str (kindS x) := by cases x <;> kernel_rfl
def Rkind (k : Nat) : List D → D → Prop := fun ds d => ∃ (m : Mn) (e : Ex), WfM m ∧ e.wf ∧ e.dep ≤ k ∧ ds = [.man m, e.d] ∧ d = .str (kindS (valM m (exC m e)))
abbrev N_kind_from : List Str := ["manual", "expression", "value"]
theorem kp_kind_from (T : Top w K mg) : Kp P w K mg base "kind_from" ["manual", "expression"] [] 19 (spD K (Rkind 12)) := by
  have hN : N_kind_from.Nodup := by decide +kernel
  refine kp_d (N := N_kind_from) T 48 rfl ⟨rfl, rfl, rfl, hN, rfl, by decide +kernel, by decide +kernel⟩ (fun _ _ _ _ _ _ us hl => match us, hl with | [_, _], _ => rfl) (fun ds d ⟨m, e, _, _, _, h, _⟩ => by rw [h]; rfl) ?_
  rintro cdv A outer s H vs ds d Q E hr hv ⟨m, e, wm, wf, dk, rfl, rfl⟩ k
  obtain ⟨v0, v1, rfl, h0, h1⟩ := isAll2 hv
  refine wss_cons (ws_set hN (i := 2) (ev_call (kp_value_from T) (hr.mono (by decide)) (eva_cons (ev_v 0 h0) (eva_cons (ev_call (kp_excard T 12) (hr.mono (by decide)) (eva_cons (ev_v 0 h0) (eva_cons (ev_v 1 h1) eva_nil)) ⟨m, e, wm, wf, dk, rfl, rfl⟩) eva_nil)) ⟨m, _, wm, rfl, rfl⟩) fun v2 H1 e1 h2 => ?_)
  obtain ⟨x, hx⟩ : ∃ x, x = valM m (exC m e) := ⟨_, rfl⟩
  rw [← hx] at h2 k
  refine wss_one (WS.of (ps_ret (pe_dget2 (Nat.lt_of_le_of_lt (Nat.add_le_add_left (by decide) _) hr.units) (pe_disp (pps_cons pe_str pe_str (pps_cons pe_str pe_str pps_nil)) rfl rfl (fun z => by cases z) (by decide)) WE.pe pe_str ⟨by kernel_rfl, by kernel_rfl, rfl, by kernel_rfl⟩)) ?_)
  intro q hq
  have e2 : Ext H1 (upd (upd H1 q (.dK [])) q (.dK (mergeK [] kindKvs))) := (Ext.new hq).mut hq
  refine ⟨upd_same, kindKvs, rfl, (show 2 ≤ 15 by decide), q, rfl, .inl ⟨_, .inl upd_same⟩, ?_⟩
  refine (ev_v 2 (h2.mono e2)) _ (Ext.refl _) _ fun v H2 e3 hv => ?_
  cases hv
  refine ⟨_, DGet.k (k := Sum.inr (mkS x)) (e3 _ _ upd_same), ?_⟩
  rw [kind_get]
  exact k _ H2 (e1.trans (e2.trans e3)) (.str _)
abbrev N_kind_of : List Str := ["manual", "expression"]
theorem kp_kind_of (T : Top w K mg) : Kp P w K mg base "kind_of" ["manual", "expression"] [] 20 (spD K (Rkind 12)) := by
  have hN : N_kind_of.Nodup := by decide +kernel
  refine kp_d (N := N_kind_of) T 49 rfl ⟨rfl, rfl, rfl, hN, rfl, by decide +kernel, by decide +kernel⟩ (fun _ _ _ _ _ _ us hl => match us, hl with | [_, _], _ => rfl) (fun ds d ⟨m, e, _, _, _, h, _⟩ => by rw [h]; rfl) ?_
  rintro cdv A outer s H vs ds d Q E hr hv ⟨m, e, wm, wf, dk, rfl, rfl⟩ k
  obtain ⟨v0, v1, rfl, h0, h1⟩ := isAll2 hv
  refine wss_cons (ws_expr (ev_call (kp_check_manual T) (hr.mono (by decide)) (eva_cons (ev_v 0 h0) eva_nil) ⟨m, rfl, rfl⟩) fun H1 e1 => ?_)
  refine wss_cons (ws_expr (ev_call (kp_check_expression T) (hr.mono (by decide)) (eva_cons (ev_v 1 (h1.mono e1)) (eva_cons ev_bl eva_nil)) ⟨e, wf, dk, rfl, rfl⟩) fun H2 e2 => ?_)
  have ee := e1.trans e2
  exact wss_one (ws_ret (ev_call (kp_kind_from T) (hr.mono (by decide)) (eva_cons (ev_v 0 (h0.mono ee)) (eva_cons (ev_v 1 (h1.mono ee)) eva_nil)) ⟨m, e, wm, wf, dk, rfl, rfl⟩) fun v H4 e4 hv => k v H4 (ee.trans e4) hv)
end
end Wb
/-! zip(.., strict=True) of two lists of one length. -/
namespace ZS
open PySem PySem.Sem
abbrev Zs (h : Heap) (z TI TO : Addr) (f : Value) : Prop := h.get? z = some { cls := .type "zip", dict := none, data := .fields #[f, .bool false, .bool true, .ref TI, .ref TO], slots := #[] }
section
variable {prog : Program} {w : World} {A : Around} {E : Value → Shared → Prop} {s : Shared}
theorem orEnd_item {it l : Addr} {i : Nat} {items : Array Value} {x : Value} {Q : Option Value → Shared → Prop} (hit : s.heap.IsListIter it l i) (hl : s.heap.IsList l items) (hx : items[i]? = some x)
    (k : ∀ h', h'.IsListIter it l (i + 1) → Heap.SameBut it s.heap h' → Q (some x) { s with heap := h' }) : wpAny (model prog w) A (Builtin.SmallTypes.nextOrEnd (.ref it)) Q E s := by
  unfold Builtin.SmallTypes.nextOrEnd
  exact wpAny_bind (wpAny_attempt (wpAny_nextOf_list_item hit hl hx fun h' a b => wpAny_pure (k h' a b)))
theorem orEnd_end {it l : Addr} {i : Nat} {items : Array Value} {Q : Option Value → Shared → Prop} (hh : A.handled = none) (hit : s.heap.IsListIter it l i) (hl : s.heap.IsList l items) (hx : items[i]? = none)
    (k : ∀ h', Heap.ExtBut it s.heap h' → Q none { s with heap := h' }) : wpAny (model prog w) A (Builtin.SmallTypes.nextOrEnd (.ref it)) Q E s := by
  unfold Builtin.SmallTypes.nextOrEnd
  refine wpAny_bind (wpAny_attempt (wpAny_nextOf_list_end hh hit hl hx fun h' e b he => ?_))
  obtain ⟨o, ho, hc⟩ := he
  exact wpAny_bind (wpAny_isInstance (T := "StopIteration") (b := true) ⟨o, ho, hc⟩ isSubtype_stop (wpAny_pure (k h' b)))
theorem stop_raise {α : Type} {Q : α → Shared → Prop} (hh : A.handled = none) (k : ∀ h' e, (∀ c o, s.heap.get? c = some o → h'.get? c = some o) → (∃ o, h'.get? e = some o ∧ o.cls = .type "StopIteration") → E (.ref e) { s with heap := h' }) :
    wpAny (model prog w) A (Builtin.SmallTypes.stopIteration : Sem α) Q E s := by
  unfold Builtin.SmallTypes.stopIteration
  refine wpAny_bind ?_
  simp only [newExc, newTuple]
  refine wpAny_bind (wpAny_newObj_type ?_ (by size_fits))
  refine wpAny_bind (m := firstArgMember _ _) (wpAny_of_eq (a := Value.none) (by first | rfl | (simp only [firstArgMember]; rfl)) (wpAny_newObj_type ?_ (by size_fits)))
  simp only [raiseNew]
  refine wpAny_bind (wpAny_handled ?_)
  rw [hh]
  exact wpAny_bind (wpAny_pure (wpAny_throw (k _ _ (fun c o e => Heap.get?_push_of_some _ (Heap.get?_push_of_some _ e)) ⟨_, Heap.get?_push_size _ rfl, rfl⟩)))
/-- what stands apart from the zip's own objects stays -/
def Keep (z TO i1 i2 : Addr) (h h' : Heap) : Prop := ∀ c o, c ≠ z → c ≠ TO → c ≠ i1 → c ≠ i2 → h.get? c = some o → h'.get? c = some o
theorem step_item {z TI TO i1 i2 l1 l2 : Addr} {k : Nat} {xs ys : Array Value} {x y a b : Value} {Q : Value → Shared → Prop} (D : ZipApart z TI TO i1 i2 l1 l2) (hz : Zs s.heap z TI TO .none) (hTI : IsPair s.heap TI (.ref i1) (.ref i2)) (hTO : IsPair s.heap TO a b)
    (h1 : s.heap.IsListIter i1 l1 k) (h2 : s.heap.IsListIter i2 l2 k) (hl1 : s.heap.IsList l1 xs) (hl2 : s.heap.IsList l2 ys) (hx : xs[k]? = some x) (hy : ys[k]? = some y)
    (q : ∀ h', Zs h' z TI TO (rawInt s.heap.objs.size) → IsPair h' TO x y → h'.IsListIter i1 l1 (k + 1) → h'.IsListIter i2 l2 (k + 1) → IsPair h' s.heap.objs.size x y → Keep z TO i1 i2 s.heap h' → Q (.ref s.heap.objs.size) { s with heap := h' }) :
    wpAny (model prog w) A (Builtin.«zip.__next__» ⟨[.ref z], []⟩) (fun fin s' => ∃ v, fin = .done (.ret v) ∧ Q v s') E s := by
  show wpAny _ _ (field (.ref z) 2 >>= _) _ _ _
  refine wpAny_bind (wpAny_field hz rfl (x := .bool true) rfl ?_)
  show wpAny _ _ (field (.ref z) 3 >>= _) _ _ _
  refine wpAny_bind (wpAny_field hz rfl (x := .ref TI) rfl (wpAny_bind (wpAny_seqItems hTI rfl ?_)))
  show wpAny _ _ (Builtin.SmallTypes.ownedTupleIsFree (.ref z) >>= _) _ _ _
  refine wpAny_bind ?_
  unfold Builtin.SmallTypes.ownedTupleIsFree
  refine wpAny_bind (wpAny_field hz rfl (x := .none) rfl (wpAny_pure ?_))
  simp only [if_true]
  refine wpAny_bind (wpAny_rule (wpAny_bind (wpAny_field hz rfl (x := .ref TO) rfl ?_)))
  refine wpAny_bind (wpAny_setField_rec hz (by simp) fun g1 z1 b1 => wpAny_bind ?_)
  simp only [List.zipIdx_cons, List.zipIdx_nil, List.forIn_cons, List.forIn_nil]
  have e1 := b1.extBut
  refine wpAny_bind (wpAny_bind (wpAny_onRaise ?_))
  show wpAny _ _ (Builtin.SmallTypes.nextOrEnd (.ref i1)) _ _ _
  refine orEnd_item (h1.extBut e1 D.i1z) (hl1.extBut e1 D.l1z) hx fun g2 p1 b2 => ?_
  have e2 := b2.extBut
  have t2 : IsPair g2 TO a b := e2 _ _ D.TOi1 (e1 _ _ D.TOz hTO)
  refine wpAny_bind (wpAny_seqItems t2 rfl (wpAny_bind (wpAny_updateSeq_pair t2 fun g3 t3 b3 => ?_)))
  have e3 := b3.extBut
  refine wpAny_bind (wpAny_letGo (wpAny_pure (wpAny_bind (wpAny_bind (wpAny_onRaise ?_)))))
  show wpAny _ _ (Builtin.SmallTypes.nextOrEnd (.ref i2)) _ _ _
  refine orEnd_item (((h2.extBut e1 D.i2z).extBut e2 D.i12.symm).extBut e3 D.TOi2.symm) (((hl2.extBut e1 D.l2z).extBut e2 D.l2i1).extBut e3 D.l2TO) hy fun g4 p2 b4 => ?_
  have e4 := b4.extBut
  have t3' : IsPair g3 TO x b := t3
  have t4 : IsPair g4 TO x b := e4 _ _ D.TOi2 t3'
  refine wpAny_bind (wpAny_seqItems t4 rfl (wpAny_bind (wpAny_updateSeq_pair t4 fun g5 t5 b5 => ?_)))
  have e5 := b5.extBut
  have t5' : IsPair g5 TO x y := t5
  refine wpAny_bind (wpAny_letGo (wpAny_pure (wpAny_pure (wpAny_bind (wpAny_seqItems t5' rfl (wpAny_bind (wpAny_newTuple ?_)))))))
  have sz : g5.objs.size = s.heap.objs.size := by rw [b5.1, b4.1, b3.1, b2.1, b1.1]
  have z1' : Zs g1 z TI TO .ellipsis := z1
  have z5 : Zs g5 z TI TO .ellipsis := e5 _ _ D.TOz.symm (e4 _ _ D.i2z.symm (e3 _ _ D.TOz.symm (e2 _ _ D.i1z.symm z1')))
  have q1 : g5.IsListIter i1 l1 (k + 1) := ((p1.extBut e3 D.TOi1.symm).extBut e4 D.i12).extBut e5 D.TOi1.symm
  have q2 : g5.IsListIter i2 l2 (k + 1) := p2.extBut e5 D.TOi2.symm
  have zl : z < g5.objs.size := Heap.lt_size z5
  have kp : Keep z TO i1 i2 s.heap g5 := fun c o c1 c2 c3 c4 e => e5 _ _ c2 (e4 _ _ c4 (e3 _ _ c2 (e2 _ _ c3 (e1 _ _ c1 e))))
  show wpAny _ _ (Builtin.SmallTypes.ownedTupleHandOut (.ref z) (.ref g5.objs.size) >>= _) _ _ _
  refine wpAny_bind ?_
  unfold Builtin.SmallTypes.ownedTupleHandOut
  have z6 : Zs (g5.push { cls := .type "tuple", data := .seq #[x, y] }) z TI TO .ellipsis := Heap.get?_push_of_some _ z5
  refine wpAny_bind (wpAny_setField_rec z6 (by simp) fun g7 z7 b7 => ?_)
  have z7' : Zs g7 z TI TO (rawInt g5.objs.size) := z7
  refine wpAny_setField_rec z7' (by simp) fun g8 z8 b8 => ?_
  have z8' : Zs g8 z TI TO (rawInt g5.objs.size) := z8
  have up : ∀ c o, c ≠ z → g5.get? c = some o → g8.get? c = some o := fun c o c1 e => b8.extBut _ _ c1 (b7.extBut _ _ c1 (Heap.get?_push_of_some _ e))
  have pr : IsPair g8 g5.objs.size x y := b8.extBut _ _ (Nat.ne_of_gt zl) (b7.extBut _ _ (Nat.ne_of_gt zl) (Heap.get?_push_size _ rfl))
  rw [sz] at z8' pr
  refine wpAny_pure ⟨_, rfl, ?_⟩
  show Q (.ref g5.objs.size) _
  rw [sz]
  exact q g8 z8' (up _ _ D.TOz t5') (q1.at fun o e => up _ o D.i1z e) (q2.at fun o e => up _ o D.i2z e) pr fun c o c1 c2 c3 c4 e => up c o c1 (kp c o c1 c2 c3 c4 e)
theorem step_end {z TI TO i1 i2 l1 l2 : Addr} {k : Nat} {xs ys : Array Value} {a b : Value} {Q : Fin → Shared → Prop} (hh : A.handled = none) (D : ZipApart z TI TO i1 i2 l1 l2) (hz : Zs s.heap z TI TO .none) (hTI : IsPair s.heap TI (.ref i1) (.ref i2)) (hTO : IsPair s.heap TO a b)
    (h1 : s.heap.IsListIter i1 l1 k) (h2 : s.heap.IsListIter i2 l2 k) (hl1 : s.heap.IsList l1 xs) (hl2 : s.heap.IsList l2 ys) (hx : xs[k]? = none) (hy : ys[k]? = none)
    (q : ∀ h' e, Keep z TO i1 i2 s.heap h' → (∃ o, h'.get? e = some o ∧ o.cls = .type "StopIteration") → E (.ref e) { s with heap := h' }) : wpAny (model prog w) A (Builtin.«zip.__next__» ⟨[.ref z], []⟩) Q E s := by
  show wpAny _ _ (field (.ref z) 2 >>= _) _ _ _
  refine wpAny_bind (wpAny_field hz rfl (x := .bool true) rfl ?_)
  show wpAny _ _ (field (.ref z) 3 >>= _) _ _ _
  refine wpAny_bind (wpAny_field hz rfl (x := .ref TI) rfl (wpAny_bind (wpAny_seqItems hTI rfl ?_)))
  show wpAny _ _ (Builtin.SmallTypes.ownedTupleIsFree (.ref z) >>= _) _ _ _
  refine wpAny_bind ?_
  unfold Builtin.SmallTypes.ownedTupleIsFree
  refine wpAny_bind (wpAny_field hz rfl (x := .none) rfl (wpAny_pure ?_))
  simp only [if_true]
  refine wpAny_bind (wpAny_rule (wpAny_bind (wpAny_field hz rfl (x := .ref TO) rfl ?_)))
  refine wpAny_bind (wpAny_setField_rec hz (by simp) fun g1 z1 b1 => wpAny_bind ?_)
  simp only [List.zipIdx_cons, List.zipIdx_nil, List.forIn_cons, List.forIn_nil]
  have e1 := b1.extBut
  have z1' : Zs g1 z TI TO .ellipsis := z1
  refine wpAny_bind (wpAny_bind (wpAny_onRaise ?_))
  show wpAny _ _ (Builtin.SmallTypes.nextOrEnd (.ref i1)) _ _ _
  refine orEnd_end hh (h1.extBut e1 D.i1z) (hl1.extBut e1 D.l1z) hx fun g2 e2 => ?_
  have z2 : Zs g2 z TI TO .ellipsis := e2 _ _ D.i1z.symm z1'
  refine wpAny_bind (wpAny_setField_rec z2 (by simp) fun g3 z3 b3 => ?_)
  have e3 := b3.extBut
  have kp : Keep z TO i1 i2 s.heap g3 := fun c o c1 c2 c3 c4 e => e3 _ _ c1 (e2 _ _ c3 (e1 _ _ c1 e))
  have p2 : g3.IsListIter i2 l2 k := ((h2.extBut e1 D.i2z).extBut e2 D.i12.symm).extBut e3 D.i2z
  have m2 : g3.IsList l2 ys := ((hl2.extBut e1 D.l2z).extBut e2 D.l2i1).extBut e3 D.l2z
  refine wpAny_bind ?_
  refine wpAny_bind ?_
  simp only [List.drop_succ_cons, List.drop_zero, List.zipIdx_cons, List.zipIdx_nil, List.forIn_cons, List.forIn_nil]
  refine wpAny_bind (wpAny_bind (orEnd_end hh p2 m2 hy fun g4 e4 => ?_))
  simp only [Option.isSome_none, Bool.false_eq_true, if_false]
  refine wpAny_pure (wpAny_pure (wpAny_bind (wpAny_rule (stop_raise hh fun h' e up he => q h' e (fun c o c1 c2 c3 c4 x => up _ _ (e4 _ _ c4 (kp c o c1 c2 c3 c4 x))) he))))
theorem next_item {z TI TO i1 i2 l1 l2 : Addr} {k : Nat} {xs ys : Array Value} {x y a b : Value} {Q : Option Value → Shared → Prop} (D : ZipApart z TI TO i1 i2 l1 l2) (hz : Zs s.heap z TI TO .none) (hTI : IsPair s.heap TI (.ref i1) (.ref i2)) (hTO : IsPair s.heap TO a b)
    (h1 : s.heap.IsListIter i1 l1 k) (h2 : s.heap.IsListIter i2 l2 k) (hl1 : s.heap.IsList l1 xs) (hl2 : s.heap.IsList l2 ys) (hx : xs[k]? = some x) (hy : ys[k]? = some y)
    (q : ∀ h', Zs h' z TI TO (rawInt s.heap.objs.size) → IsPair h' TO x y → h'.IsListIter i1 l1 (k + 1) → h'.IsListIter i2 l2 (k + 1) → IsPair h' s.heap.objs.size x y → Keep z TO i1 i2 s.heap h' → Q (some (.ref s.heap.objs.size)) { s with heap := h' }) : wpAny (model prog w) A (pyNext (.ref z)) Q E s := by
  have ty : s.TypeIs (.ref z) "zip" := ⟨_, hz, rfl⟩
  unfold pyNext
  exact wpAny_bind (wpAny_attempt (wpAny_callSpecial?_slot (name := Str.ofString "__next__") ty F.slot_zip_next (wpAny_call_entry F.slot_zip_next ty F.entry_zip_next (step_item D hz hTI hTO h1 h2 hl1 hl2 hx hy fun h' a1 a2 a3 a4 a5 a6 => wpAny_pure (q h' a1 a2 a3 a4 a5 a6)) (F.args_zip_next_1 _))))
theorem next_end {z TI TO i1 i2 l1 l2 : Addr} {k : Nat} {xs ys : Array Value} {a b : Value} {Q : Option Value → Shared → Prop} (hh : A.handled = none) (D : ZipApart z TI TO i1 i2 l1 l2) (hz : Zs s.heap z TI TO .none) (hTI : IsPair s.heap TI (.ref i1) (.ref i2)) (hTO : IsPair s.heap TO a b)
    (h1 : s.heap.IsListIter i1 l1 k) (h2 : s.heap.IsListIter i2 l2 k) (hl1 : s.heap.IsList l1 xs) (hl2 : s.heap.IsList l2 ys) (hx : xs[k]? = none) (hy : ys[k]? = none) (q : ∀ h', Keep z TO i1 i2 s.heap h' → Q none { s with heap := h' }) : wpAny (model prog w) A (pyNext (.ref z)) Q E s := by
  have ty : s.TypeIs (.ref z) "zip" := ⟨_, hz, rfl⟩
  unfold pyNext
  refine wpAny_bind (wpAny_attempt (wpAny_callSpecial?_slot (name := Str.ofString "__next__") ty F.slot_zip_next (wpAny_call_entry F.slot_zip_next ty F.entry_zip_next (step_end hh D hz hTI hTO h1 h2 hl1 hl2 hx hy fun h' e kp he => ?_) (F.args_zip_next_1 _))))
  obtain ⟨o, ho, hc⟩ := he
  exact wpAny_bind (wpAny_isInstance (T := "StopIteration") (b := true) ⟨o, ho, hc⟩ isSubtype_stop (wpAny_pure (q h' kp)))
theorem go_pair {elts : List Expr} {n : Nat} {pos : Pos} {z TI TO T : Addr} {Q : Unit → Shared → Prop} (hz : Zs s.heap z TI TO (rawInt T)) (q : ∀ h', Zs h' z TI TO .none → Heap.SameBut z s.heap h' → Q () { s with heap := h' }) : wpAny (model prog w) A (letOwnedTupleGo (.Tuple elts n pos) (.ref z) (.ref T)) Q E s := by
  unfold letOwnedTupleGo
  refine wpAny_bind (wpAny_load hz ?_)
  show wpAny _ _ (ite ((["enumerate", "zip", "dict_itemiterator", "dict_reverseitemiterator", "odict_iterator", "itertools.zip_longest", "itertools.pairwise"].contains "zip" && (#[rawInt T, .bool false, .bool true, .ref TI, .ref TO] : Array Value)[0]? == some (rawInt T)) = true) _ _) Q E s
  rw [if_pos (by simp)]
  refine wpAny_bind (wpAny_rule ?_)
  show wpAny _ _ (setField (.ref z) 0 .none) Q E s
  exact wpAny_setField_rec hz (by simp) fun h' a b => q h' a b
theorem iter_self {z TI TO : Addr} {f : Value} {Q : Value → Shared → Prop} (hz : Zs s.heap z TI TO f) (h : Q (.ref z) s) : wpAny (model prog w) A (pyIter (.ref z)) Q E s := by
  have ty : s.TypeIs (.ref z) "zip" := ⟨_, hz, rfl⟩
  refine wpAny_pyIter_slot ty F.slot_zip_iter (wpAny_call_entry F.slot_zip_iter ty F.entry_zip_iter ?_ (F.args_zip_iter_1 _))
  show wpAny _ _ (ret (.ref z)) _ _ s
  exact wpAny_pure ⟨_, rfl, "zip", _, ty, F.slot_zip_next.lookup, h⟩
end
end ZS
/-! zip(a, b, strict=True): made, walked. -/
namespace ZS
open PySem PySem.Sem
theorem tyOk (a b c : Value) : checkTypeCall "zip" ⟨[a, b], [(Str.ofString "strict", c)]⟩ = pure () := by kernel_rfl
theorem newOk (a b c : Value) : checkBuiltinCall "zip.__new__" ⟨[.type "zip", a, b], [(Str.ofString "strict", c)]⟩ = pure () := by kernel_rfl
theorem initOk (o a b c : Value) : argsOk "object.__init__" ⟨[o, a, b], [(Str.ofString "strict", c)]⟩ := by unfold argsOk; kernel_rfl
/-- the heap that the making leaves -/
abbrev heapZ (h : Heap) (o1 o2 : Obj) : Heap := (gzO2 h o1 o2).push { cls := .type "zip", data := .fields #[.none, .bool false, .bool true, .ref ((h.push o1).push o2).objs.size, .ref (gzT2 h o1 o2).objs.size] }
theorem meetsNew {v1 v2 : Value} {o1 o2 : Obj} {H1 H2 : Heap → Prop} (B1 : Begins v1 o1 H1) (B2 : Begins v2 o2 H2) :
    Meets (Builtin.«zip.__new__» ⟨[.type "zip", v1, v2], [(Str.ofString "strict", .bool true)]⟩) fun _ R s => (H1 s.heap ∧ H2 s.heap) ∧ R (.ok (.ret (.ref (gzO2 s.heap o1 o2).objs.size))) { s with heap := heapZ s.heap o1 o2 } := by
  refine .of_wp fun prog w A R s h => ?_
  obtain ⟨hp, g, d, tk, os⟩ := s
  obtain ⟨⟨b1, b2⟩, rest⟩ := h
  have subZ := sub_zip
  have first : ∀ {A' : Around} {E : Value → Shared → Prop} {Q : Value → Shared → Prop}, Q (.ref hp.objs.size) ⟨hp.push o1, g, d, tk, os⟩ → wpAny (model prog w) A' (pyIter v1) Q E ⟨hp, g, d, tk, os⟩ := fun q => B1.iter prog w _ _ _ _ b1 q
  have second : ∀ {A' : Around} {E : Value → Shared → Prop} {Q : Value → Shared → Prop}, Q (.ref (hp.push o1).objs.size) ⟨(hp.push o1).push o2, g, d, tk, os⟩ → wpAny (model prog w) A' (pyIter v2) Q E ⟨hp.push o1, g, d, tk, os⟩ := fun q => B2.iter prog w _ _ _ _ (B2.keeps _ _ b2 fun _ _ e => Heap.get?_push_of_some _ e) q
  have n1 : (Str.ofString "strict" == ("strict" : Str)) = true := by decide +kernel
  have n2 : (Str.ofString "strict" != ("strict" : Str)) = false := by decide +kernel
  wp_walk using first, second
  exact ⟨_, rfl, rest⟩
section
variable {prog : Program} {w : World} {A : Around} {E : Value → Shared → Prop} {s : Shared}
theorem made {l1 l2 : Addr} {xs ys : Array Value} {Q : Value → Shared → Prop} (h1 : s.heap.IsList l1 xs) (h2 : s.heap.IsList l2 ys)
    (q : ∀ h', Zs h' (s.heap.objs.size + 4) (s.heap.objs.size + 2) (s.heap.objs.size + 3) .none → IsPair h' (s.heap.objs.size + 2) (.ref s.heap.objs.size) (.ref (s.heap.objs.size + 1)) → IsPair h' (s.heap.objs.size + 3) .none .none →
      h'.IsListIter s.heap.objs.size l1 0 → h'.IsListIter (s.heap.objs.size + 1) l2 0 → (∀ c o, s.heap.get? c = some o → h'.get? c = some o) → Q (.ref (s.heap.objs.size + 4)) { s with heap := h' }) :
    wpAny (model prog w) A (call (.type "zip") [.ref l1, .ref l2] [(Str.ofString "strict", .bool true)]) Q E s := by
  refine callType_newKw F.called_zip (by decide) (tyOk _ _ _) (newOk _ _ _) (fun o => initOk o _ _ _) F.entry_zip_new (meetsNew (begins_list l1 xs) (begins_list l2 ys)) ⟨⟨h1, h2⟩, ?_⟩
  generalize ho1 : ({ cls := .type "list_iterator", data := .fields #[.ref l1, .int 0 0] } : Obj) = o1
  generalize ho2 : ({ cls := .type "list_iterator", data := .fields #[.ref l2, .int 0 0] } : Obj) = o2
  have f1 : o1.isFreed = false := by rw [← ho1]; rfl
  have f2 : o2.isFreed = false := by rw [← ho2]; rfl
  have s1 : (s.heap.push o1).objs.size = s.heap.objs.size + 1 := Heap.size_push ..
  have s2 : ((s.heap.push o1).push o2).objs.size = s.heap.objs.size + 2 := by rw [Heap.size_push, s1]
  have s3 : (gzT2 s.heap o1 o2).objs.size = s.heap.objs.size + 3 := by rw [Heap.size_push, s2]
  have s4 : (gzO2 s.heap o1 o2).objs.size = s.heap.objs.size + 4 := by rw [Heap.size_push, s3]
  have up1 : ∀ c o, (s.heap.push o1).get? c = some o → (heapZ s.heap o1 o2).get? c = some o := fun c o e => Heap.get?_push_of_some _ (Heap.get?_push_of_some _ (Heap.get?_push_of_some _ (Heap.get?_push_of_some _ e)))
  have a0 : (heapZ s.heap o1 o2).get? s.heap.objs.size = some o1 := up1 _ _ (Heap.get?_push_size _ f1)
  have a1 : (heapZ s.heap o1 o2).get? (s.heap.push o1).objs.size = some o2 := Heap.get?_push_of_some _ (Heap.get?_push_of_some _ (Heap.get?_push_of_some _ (Heap.get?_push_size _ f2)))
  have a2 : (heapZ s.heap o1 o2).get? ((s.heap.push o1).push o2).objs.size = some { cls := .type "tuple", data := .seq #[.ref s.heap.objs.size, .ref (s.heap.push o1).objs.size] } := Heap.get?_push_of_some _ (Heap.get?_push_of_some _ (Heap.get?_push_size _ rfl))
  have a3 : (heapZ s.heap o1 o2).get? (gzT2 s.heap o1 o2).objs.size = some { cls := .type "tuple", data := .seq #[.none, .none] } := Heap.get?_push_of_some _ (Heap.get?_push_size _ rfl)
  have a4 : (heapZ s.heap o1 o2).get? (gzO2 s.heap o1 o2).objs.size = some { cls := .type "zip", data := .fields #[.none, .bool false, .bool true, .ref ((s.heap.push o1).push o2).objs.size, .ref (gzT2 s.heap o1 o2).objs.size] } := Heap.get?_push_size _ rfl
  rw [s1] at a1
  rw [s1, s2] at a2
  rw [s3] at a3
  rw [s2, s3, s4] at a4
  show _ ∧ _
  rw [s4]
  exact ⟨⟨_, a4, rfl⟩, q _ a4 a2 a3 ⟨_, a0, by rw [← ho1], by rw [← ho1]; rfl⟩ ⟨_, a1, by rw [← ho2], by rw [← ho2]; rfl⟩ fun c o e => up1 c o (Heap.get?_push_of_some _ e)⟩
end
end ZS
namespace Wb
open PySem PySem.Spec L2 PyProof.Rows
/-- the lists at a and b, of one length, as they stand, in new pairs -/
def ItS (K : PySem.W.Frag) (a b : Addr) : It :=
  ⟨fun i H => ∃ (xs ys : List V) (x y : V), SqL K H a xs ∧ SqL K H b ys ∧ xs[i]? = some x ∧ ys[i]? = some y,
    fun i H v H' => ∃ T x y, v = .ref T ∧ H T = none ∧ H' = upd H T (.tup [x, y]) ∧ (∀ xs, SqL K H a xs → xs[i]? = some x) ∧ ∀ ys, SqL K H b ys → ys[i]? = some y,
    fun i H => ∃ xs ys : List V, SqL K H a xs ∧ SqL K H b ys ∧ xs.length ≤ i ∧ ys.length ≤ i⟩
def tnS (a b z TI TO i1 i2 : Addr) : Nat → Heap → Prop := fun i h => ZS.Zs h z TI TO .none ∧ IsPair h TI (.ref i1) (.ref i2) ∧ (∃ x y, IsPair h TO x y) ∧ h.IsListIter i1 a i ∧ h.IsListIter i2 b i
theorem turn_zipS {P : Program} {w : World} {K : PySem.W.Frag} {elts : List Expr} {kk : Nat} {tpos : Pos} {a b z TI TO i1 i2 : Addr} (D : ZipApart z TI TO i1 i2 a b) : Turn P w K (.Tuple elts kk tpos) (ItS K a b) [z, TI, TO, i1, i2] z (tnS a b z TI TO i1 i2) := by
  have five : ∀ {c : Addr} {p : Addr → Prop}, c ∈ [z, TI, TO, i1, i2] → p z → p TI → p TO → p i1 → p i2 → p c := fun hc q0 q1 q2 q3 q4 => by
    simp only [List.mem_cons, List.not_mem_nil, or_false] at hc
    rcases hc with rfl | rfl | rfl | rfl | rfl <;> assumption
  refine ⟨by simp, fun i h st c hc => ?_, fun i h h' st k => ?_, ?_, ?_, fun A i s Q E st h => ZS.iter_self st.1 h⟩
  · obtain ⟨hz, hTI, ⟨x, y, hTO⟩, ⟨o1, e1, _, d1⟩, ⟨o2, e2, _, d2⟩⟩ := st
    exact five (p := fun c => ∃ o, h.get? c = some o ∧ ∀ v, o.data ≠ .cell v) hc ⟨_, hz, fun v q => nomatch q⟩ ⟨_, hTI, fun v q => nomatch q⟩ ⟨_, hTO, fun v q => nomatch q⟩ ⟨o1, e1, fun v q => by rw [d1] at q; cases q⟩ ⟨o2, e2, fun v q => by rw [d2] at q; cases q⟩
  · obtain ⟨hz, hTI, ⟨x, y, hTO⟩, h1, h2⟩ := st
    exact ⟨k z (by simp) _ hz, k TI (by simp) _ hTI, ⟨x, y, k TO (by simp) _ hTO⟩, h1.at fun o q => k i1 (by simp) o q, h2.at fun o q => k i2 (by simp) o q⟩
  · rintro X rfl rfl rfl hc i pins s σ H E I hf ⟨hz, hTI, ⟨x0, y0, hTO⟩, h1, h2⟩ ⟨xs, ys, x, y, qx, qy, hx, hy⟩
    obtain ⟨us, rv, p1, _⟩ := I.list qx
    obtain ⟨ws, rw', p2, _⟩ := I.list qy
    obtain ⟨u, hu, ru⟩ := rv.get hx
    obtain ⟨w', hw, rw''⟩ := rw'.get hy
    have zl : z < s.heap.objs.size := Heap.lt_size hz
    refine ZS.next_item D hz hTI hTO h1 h2 p1.isList p2.isList (x := u) (y := w') (by simpa using hu) (by simpa using hw) fun g zg TO' n1 n2 pr kp => ⟨_, rfl, ZS.go_pair (s := { s with heap := g }) zg fun g2 zg2 sb => ?_⟩
    have back : ∀ c o, c ≠ z → g.get? c = some o → g2.get? c = some o := fun c o hc e => (sb.2 c hc).trans e
    have pr2 : IsPair g2 s.heap.objs.size u w' := back _ _ (Nat.ne_of_gt zl) pr
    have nw : ObjOk X.prog X.w (upd H s.heap.objs.size (.tup [x, y])) g2 s.heap.objs.size (.tup [x, y]) := ⟨small (by show 2 ≤ 100000; decide), [u, w'], .cons ru (.cons rw'' .nil), ⟨_, pr2, rfl, _, rfl⟩⟩
    have stay : ∀ c o, c ∉ [z, TI, TO, i1, i2] → s.heap.get? c = some o → g2.get? c = some o := fun c o hc e => by
      simp only [List.mem_cons, List.not_mem_nil, or_false, not_or] at hc
      exact back c o hc.1 (kp c o hc.1 hc.2.2.1 hc.2.2.2.1 hc.2.2.2.2 e)
    have I1 : Inv X pins σ (upd H s.heap.objs.size (.tup [x, y])) { s with heap := g2 } := I.turnedNew (t' := s.toks) (ch := [z, TI, TO, i1, i2]) stay hf (Nat.le_refl _) nw
    refine ⟨.ref s.heap.objs.size, _, I1, rfl, ⟨_, x, y, rfl, I.hok.fresh (Nat.le_refl _), rfl, fun l hl => by rw [I.list_inj hl qx]; exact hx, fun l hl => by rw [I.list_inj hl qy]; exact hy⟩,
      ⟨zg2, back _ _ D.TIz (kp _ _ D.TIz D.TITO D.TIi1 D.TIi2 hTI), ⟨u, w', back _ _ D.TOz TO'⟩, n1.at fun o q => back _ o D.i1z q, n2.at fun o q => back _ o D.i2z q⟩, fun c hcm => ?_⟩
    have lt : c < s.heap.objs.size := five (p := fun c => c < s.heap.objs.size) hcm zl (Heap.lt_size hTI) (Heap.lt_size hTO) (by obtain ⟨_, e1, _⟩ := h1; exact Heap.lt_size e1) (by obtain ⟨_, e2, _⟩ := h2; exact Heap.lt_size e2)
    rw [upd_ne (Nat.ne_of_lt lt)]
    exact (hf c hcm).1
  · rintro X rfl rfl rfl hc i pins s σ H E I hf ⟨hz, hTI, ⟨x0, y0, hTO⟩, h1, h2⟩ ⟨xs, ys, qx, qy, l1, l2⟩
    obtain ⟨us, rv, p1, _⟩ := I.list qx
    obtain ⟨ws, rw', p2, _⟩ := I.list qy
    have e1 := rv.length
    have e2 := rw'.length
    refine ZS.next_end (I.ok.hd hc) D hz hTI hTO h1 h2 p1.isList p2.isList (by simp; omega) (by simp; omega) fun g kp => ⟨rfl, I.turnedL (t' := s.toks) (ch := [z, TI, TO, i1, i2]) (fun c o hc e => ?_) hf⟩
    simp only [List.mem_cons, List.not_mem_nil, or_false, not_or] at hc
    exact kp c o hc.1 hc.2.2.1 hc.2.2.2.1 hc.2.2.2.2 e
def iZipS (K : PySem.W.Frag) (ta : TA) : TI := fun σ H R => ta σ H fun vs H1 => ∃ a b xs ys, vs = [.ref a, .ref b] ∧ SqL K H1 a xs ∧ SqL K H1 b ys ∧ R (ItS K a b) H1
theorem pi_zipS {X : Cx} {e e2 : Expr} {ta : TA} {p pos tpos kp cp : Pos} {j : Nat} {elts : List Expr} {kk : Nat} (hg : Gl X "zip") (hm : X.mg "zip" = none) (ha : PA X [e, e2] ta) (hs : starEach [e, e2] X.env = (false, eval e X.env) :: starEach [e2] X.env) (hs2 : starEach [e2] X.env = [(false, eval e2 X.env)]) :
    PI X (.Tuple elts kk tpos) (.Call (.Name "zip" p) [e, e2] [⟨some "strict", .Constant (.bool true) j cp, kp⟩] pos) (iZipS X.K ta) := by
  refine ⟨fun pins s σ H R I h => wpAny_Call_Name_kw (ld_blt I hg hm PyProof.Rows.boot_zip ?_)⟩
  obtain ⟨y, hb⟩ : ∃ y, backTo pos (starEach [e, e2] X.env) = (false, y) :: backTo pos (starEach [e2] X.env) := ⟨_, by rw [hs]; rfl⟩
  have hp : (backTo pos (starEach [e, e2] X.env)).any (·.1) = false := by rw [hs, hs2]; rfl
  unfold callWith
  refine wpAny_bind (wpAny_holding (wpAny_mono (?_ : wpAny _ _ _ (fun a s1 => wpAny (model X.prog X.w) X.A (call (.type "zip") ([] ++ a.pos) a.kw) (fun v s1 => wpAny (model X.prog X.w) X.A (pyIter v) (PIE X pins σ (.Tuple elts kk tpos) R) X.xe s1) X.xe s1) _ _) (fun a s1 h1 => wpAny_bind (wpAny_standAt ?_)) fun _ _ x => x))
  · rw [hb]
    refine evalArgs_kwB rfl ?_
    rw [← hb]
    refine thn (ha.run pos pins s σ H _ I h) ?_
    rintro us s1 ⟨vs, H1, I1, r1, a, b, xs, ys, rfl, qx, qy, q⟩
    refine PyProof.Rows.kws_cons (thn (pe_bl.run pins s1 σ H1 (fun v H2 => v = .bl true ∧ H2 = H1) I1 ⟨rfl, rfl⟩) ?_)
    rintro u s2 ⟨v, H2, I2, rb, rfl, rfl⟩
    obtain rfl : u = Value.bool true := rb
    refine PyProof.Rows.kws_nil ?_
    obtain ⟨u1, u2, rfl, ra, rb2⟩ := vals2 r1
    obtain rfl : u1 = Value.ref a := ra
    obtain rfl : u2 = Value.ref b := rb2
    obtain ⟨its, rv, p1, _⟩ := I2.list qx
    obtain ⟨its2, rv2, p2, _⟩ := I2.list qy
    refine ZS.made p1.isList p2.isList fun h' hz hTI hTO h1 h2 hk => ZS.iter_self hz ?_
    have I3 : Inv X pins σ H2 { s2 with heap := h' } := I2.kept (t' := s2.toks) hk
    refine ⟨s2.heap.objs.size + 4, [s2.heap.objs.size + 4, s2.heap.objs.size + 2, s2.heap.objs.size + 3, s2.heap.objs.size, s2.heap.objs.size + 1], _, _, H2, rfl, I3, turn_zipS (PySem.W.ktu_apart s2.heap.objs.size a b p1.lt p2.lt), ⟨hz, hTI, ⟨_, _, hTO⟩, h1, h2⟩, fun c hc => ?_, q⟩
    have le : s2.heap.objs.size ≤ c := by
      simp only [List.mem_cons, List.not_mem_nil, or_false] at hc
      rcases hc with rfl | rfl | rfl | rfl | rfl
      · exact Nat.le_add_right _ _
      · exact Nat.le_add_right _ _
      · exact Nat.le_add_right _ _
      · exact Nat.le_refl _
      · exact Nat.le_add_right _ _
    exact I2.fpOk le (I2.hok.fresh le)
  · have hk : (backToKw pos (keywordEach [⟨some "strict", .Constant (.bool true) j cp, kp⟩] X.env)).any (·.1.isNone) = false := rfl
    simp only [hp, hk, Bool.or_false]
    refine wpAny_bind (wpAny_pure ?_)
    exact wpAny_bind (wpAny_mono h1 (fun r s2 hr => wpAny_bind (wpAny_holding (wpAny_point (wpAny_pure hr)))) fun _ _ x => x)
end Wb
/-! More rules over data: pairs of lists, lists joined, slices, comprehensions of what stands. -/
namespace Wb
open PySem PySem.Spec L2
def zipD (xs ys : List D) : List D := (xs.zip ys).map fun p => .tup [p.1, p.2]
theorem zipD_get {xs ys : List D} {i : Nat} {d : D} (h : (zipD xs ys)[i]? = some d) : ∃ x y, xs[i]? = some x ∧ ys[i]? = some y ∧ d = .tup [x, y] := by
  obtain ⟨p, hp, rfl⟩ := map_get h
  obtain ⟨h1, h2⟩ := List.getElem?_zip_eq_some.mp hp
  exact ⟨p.1, p.2, h1, h2, rfl⟩
theorem zipD_length {xs ys : List D} : (zipD xs ys).length = min xs.length ys.length := by unfold zipD; rw [List.length_map, List.length_zip]
section
variable {X : Cx} {e a b iter tg elt : Expr} {σ : L2.St} {H B : Hp} {pos p p2 : Pos} {xs ys : List D} {Dn : Ends} {α : Type} {l : List α} {E : α → D}
theorem yl_zipS {K : PySem.W.Frag} {a b : Addr} (h : Is K B (.ref a) (.lst xs)) (h2 : Is K B (.ref b) (.lst ys)) (hl : xs.length = ys.length) : Yl K (ItS K a b) B (zipD xs ys) := by
  cases h with
  | @lst _ vs _ hs ha =>
  cases h2 with
  | @lst _ ws _ hs2 hb =>
    have l1 := ha.length
    have l2 := hb.length
    refine ⟨fun i H' e hi => ?_, fun i H' v H'' d e hd y => ?_, fun H' e => ⟨vs, ws, sqL_mono e hs, sqL_mono e hs2, ?_, ?_⟩⟩
    · rw [zipD_length] at hi
      obtain ⟨v, hv, _⟩ := ha.get (i := i) (List.getElem?_eq_getElem (by omega))
      obtain ⟨u, hu, _⟩ := hb.get (i := i) (List.getElem?_eq_getElem (by omega))
      exact ⟨vs, ws, v, u, sqL_mono e hs, sqL_mono e hs2, hv, hu⟩
    · obtain ⟨T, x, y, rfl, hT, rfl, y1, y2⟩ := y
      obtain ⟨dx, dy, hx, hy, rfl⟩ := zipD_get hd
      obtain ⟨d1, q1, i1⟩ := ha.get' (y1 vs (sqL_mono e hs))
      obtain ⟨d2, q2, i2⟩ := hb.get' (y2 ws (sqL_mono e hs2))
      rw [hx] at q1; cases q1
      rw [hy] at q2; cases q2
      have n := e.trans (Ext.new hT (o := .tup [x, y]))
      exact ⟨Ext.new hT, .tup (.of upd_same) (.cons (i1.mono n) (.cons (i2.mono n) .nil))⟩
    · rw [zipD_length]; omega
    · rw [zipD_length]; omega
theorem yl_zip {K : PySem.W.Frag} {a b : Addr} (h : Is K B (.ref a) (.lst xs)) (h2 : Is K B (.ref b) (.lst ys)) : Yl K (Itz K a b) B (zipD xs ys) := by
  cases h with
  | @lst _ vs _ hs ha =>
  cases h2 with
  | @lst _ ws _ hs2 hb =>
    have l1 := ha.length
    have l2 := hb.length
    refine ⟨fun i H' e hi => ?_, fun i H' v H'' d e hd y => ?_, fun H' e => ⟨vs, ws, sqL_mono e hs, sqL_mono e hs2, ?_⟩⟩
    · rw [zipD_length] at hi
      obtain ⟨v, hv, _⟩ := ha.get (i := i) (List.getElem?_eq_getElem (by omega))
      obtain ⟨u, hu, _⟩ := hb.get (i := i) (List.getElem?_eq_getElem (by omega))
      exact ⟨vs, ws, v, u, sqL_mono e hs, sqL_mono e hs2, hv, hu⟩
    · obtain ⟨T, x, y, rfl, hT, rfl, y1, y2⟩ := y
      obtain ⟨dx, dy, hx, hy, rfl⟩ := zipD_get hd
      obtain ⟨d1, q1, i1⟩ := ha.get' (y1 vs (sqL_mono e hs))
      obtain ⟨d2, q2, i2⟩ := hb.get' (y2 ws (sqL_mono e hs2))
      rw [hx] at q1; cases q1
      rw [hy] at q2; cases q2
      have n := e.trans (Ext.new hT (o := .tup [x, y]))
      exact ⟨Ext.new hT, .tup (.of upd_same) (.cons (i1.mono n) (.cons (i2.mono n) .nil))⟩
    · rw [zipD_length]; omega
theorem evi_zipS {elts : List Expr} {kk j : Nat} {tpos kp cp : Pos} (hm : X.mg "zip" = none) (h : Ev X σ H a (.lst xs)) (h2 : Ev X σ H b (.lst ys)) (hl : xs.length = ys.length) (hg : Gl X "zip" := by rfl) (hs : noStar a = true := by rfl) (hs2 : noStar b = true := by rfl) :
    EvI X σ H (.Tuple elts kk tpos) (.Call (.Name "zip" p) [a, b] [⟨some "strict", .Constant (.bool true) j cp, kp⟩] pos) (zipD xs ys) :=
  fun H1 e1 R q => WI.of (pi_zipS hg hm WA.pa (star_cons hs) (by rw [star_cons hs2]; rfl)) (eva_cons h (eva_cons h2 eva_nil hs2) hs H1 e1 _ fun vs H2 e2 hv => by
    obtain ⟨v0, v1, rfl, i0, i1⟩ := isAll2 hv
    have c0 := i0
    have c1 := i1
    cases i0 with
    | @lst a vs _ hs ha =>
    cases i1 with
    | @lst b ws _ hs2 hb => exact ⟨a, b, vs, ws, rfl, .of hs, .of hs2, q _ H2 e2 (yl_zipS c0 c1 hl)⟩)
theorem evi_zip {elts : List Expr} {kk : Nat} {tpos : Pos} (hm : X.mg "zip" = none) (h : Ev X σ H a (.lst xs)) (h2 : Ev X σ H b (.lst ys)) (hg : Gl X "zip" := by rfl) (hs : noStar a = true := by rfl) (hs2 : noStar b = true := by rfl) :
    EvI X σ H (.Tuple elts kk tpos) (.Call (.Name "zip" p) [a, b] [] pos) (zipD xs ys) :=
  fun H1 e1 R q => WI.of (pi_zip hg hm WA.pa (star_cons hs) (by rw [star_cons hs2]; rfl)) (eva_cons h (eva_cons h2 eva_nil hs2) hs H1 e1 _ fun vs H2 e2 hv => by
    obtain ⟨v0, v1, rfl, i0, i1⟩ := isAll2 hv
    have c0 := i0
    have c1 := i1
    cases i0 with
    | @lst a vs _ hs ha =>
    cases i1 with
    | @lst b ws _ hs2 hb => exact ⟨a, b, vs, ws, rfl, .of hs, .of hs2, q _ H2 e2 (yl_zip c0 c1)⟩)
/-! lists joined, repeated -/
theorem ev_catL (h : Ev X σ H a (.lst xs)) (h2 : Ev X σ H b (.lst ys)) (hl : xs.length + ys.length ≤ 100000) : Ev X σ H (.BinOp a .Add b pos) (.lst (xs ++ ys)) := ev_bin op_cat (fun x y H hx hy Q q => by
  cases hx with
  | @lst p vs _ hs ha =>
  cases hy with
  | @lst p2 ws _ hs2 hb => exact ⟨p, p2, vs, ws, rfl, rfl, hs, hs2, small (by rw [ha.length, hb.length]; exact hl), fun t ht => q _ _ (Ext.new ht) (.lst upd_same ((ha.append hb).mono (Ext.new ht)))⟩) h h2
theorem isAll_rep {K : PySem.W.Frag} {H : Hp} {vs : List V} {ds : List D} (h : IsAll K H vs ds) : ∀ n, IsAll K H (List.replicate n vs).flatten (List.replicate n ds).flatten
  | 0 => .nil
  | n + 1 => by rw [List.replicate_succ, List.replicate_succ, List.flatten_cons, List.flatten_cons]; exact h.append (isAll_rep h n)
theorem ev_repL {n : Nat} (h : Ev X σ H a (.lst xs)) (h2 : Ev X σ H b (.int (n : Nat))) (hn : n ≤ 100000) (hl : xs.length * n ≤ 100000) : Ev X σ H (.BinOp a .Mult b pos) (.lst (List.replicate n xs).flatten) := ev_bin op_rep (fun x y H hx hy Q q => by
  cases hx with
  | @lst p vs _ hs ha =>
    cases hy
    exact ⟨p, n, vs, rfl, rfl, hs, by omega, by omega, small (by rw [ha.length]; simpa using hl), fun t ht => q _ _ (Ext.new ht) (.lst upd_same ((isAll_rep ha n).mono (Ext.new ht)))⟩) h h2
/-- x += e, whole numbers -/
theorem ws_augI (i : Nat) {x : Str} {v : V} {m n : Int} {pos' : Pos} (hN : X.N.Nodup) (hv : Is X.K H v (.int m)) (h : Ev X σ H e (.int n)) (k : ∀ u H1, Ext H H1 → Is X.K H1 u (.int (m + n)) → Dn.nx (σ.set i (some u)) H1) (hs : σ[i]? = some (some v) := by rfl) (hi : X.N[i]? = some x := by rfl)
    (hx : Loc X.env.scope x := by first | exact .inl rfl | exact .inr rfl) (hf : X.fn x = true ∨ X.env.scope.names.lookup x = some .local := by first | exact .inl rfl | exact .inr rfl) : WS X (.AugAssign (.Name x pos') .Add e pos) Dn σ H :=
  WS.of (ps_aug hN hi hx WE.pe ip_add hf) ⟨v, hs, h H (Ext.refl _) _ fun u H1 e1 hu => by
    cases hv; cases hu
    exact ⟨m, n, rfl, rfl, k _ H1 e1 (.int _)⟩⟩
/-! [x for x in iter if test]: the items themselves -/
theorem lc_readS {scope : Scope} {vs : List Nat} {g : TG} {tt : TT} (q : α → Bool) (hi : EvIS X σ H B tg iter (l.map E)) (hB : Ext B H) (hz : l.length ≤ 100000) (hm : GMono g)
    (hs : ∀ d ∈ l, ∀ v H1, Ext B H1 → Is X.K B v (E d) → g v (wipe σ vs) H1 fun σ2 H2 => H2 = H1 ∧ wipe σ2 vs = wipe σ vs ∧
      (∀ R : Bool → Hp → Prop, (∀ H3, Ext H1 H3 → R (q d) H3) → tt σ2 H1 R) ∧ (q d = true → ∀ s H' C cl fp H3, Ext H1 H3 → ∀ Q : VK, Q v H3 → WE (Bk X scope s H' C cl fp) elt σ2 H3 Q))
    {H1 : Hp} (e1 : Ext H H1) {Q : VK} (k : ∀ v H2, Ext H1 H2 → Is X.K H2 v (.lst ((l.filter q).map E)) → Q v H2) : tLc (WI X tg iter) g tt (bkE X scope elt) vs σ H1 Q := by
  refine hi H1 e1 _ fun J Hb e2 y Dl hD => ?_
  have eB : Ext B Hb := hB.trans (e1.trans e2)
  have hDB : B Dl = none := eB.back hD
  refine ⟨fun i m H' => m = l.length - i ∧ i ≤ l.length ∧ Ext Hb H' ∧ ∃ acc, H' Dl = some (.lst acc) ∧ IsAll X.K B acc (((l.take i).filter q).map E), ⟨l.length, by simp, Nat.zero_le _, Ext.new hD, [], upd_same, .nil⟩, ?_⟩
  rintro i m H3 ⟨rfl, hle, p1, acc, p2, p3⟩
  by_cases hlt : i < l.length
  · have hlt' : i < (l.map E).length := by simpa using hlt
    refine .inr ⟨y.go i H3 (eB.trans p1) hlt', fun H' => i + 1 ≤ l.length ∧ Ext Hb H' ∧ ∃ acc, H' Dl = some (.lst acc) ∧ IsAll X.K B acc (((l.take (i + 1)).filter q).map E), fun H' ⟨q1, q2⟩ => ⟨l.length - (i + 1), by omega, rfl, q1, q2⟩, fun v H4 yy => ?_⟩
    have hd : l[i]? = some l[i] := List.getElem?_eq_getElem hlt
    have hd' : (l.map E)[i]? = some (E l[i]) := by rw [List.getElem?_map, hd]; rfl
    obtain ⟨rfl, hv⟩ := y.yld i H3 v H4 (E l[i]) (eB.trans p1) hd' yy
    have htk : l.take (i + 1) = l.take i ++ [l[i]] := List.take_succ_eq_append_getElem hlt
    refine hm v _ H4 _ _ (fun σ2 H2 ⟨q1, q2, q3, q4⟩ => ?_) (hs l[i] (List.getElem_mem hlt) v H4 (eB.trans p1) hv)
    subst q1
    refine ⟨q2, q3 _ fun H5 e5 => ?_⟩
    cases hq : q l[i] with
    | true =>
      refine iteT fun s H' C cl fp => q4 hq s H' C cl fp H5 e5 _ ⟨acc, e5 _ _ p2, ?_, hlt, (p1.trans e5).mut hD, acc ++ [v], upd_same, ?_⟩
      · have h1 := p3.length
        have h2 : (((l.take i).filter q).map E).length ≤ l.length := by rw [List.length_map]; exact Nat.le_trans (List.length_filter_le ..) (by rw [List.length_take]; omega)
        exact Nat.lt_of_le_of_lt (by omega : acc.length ≤ 100000) (by decide)
      · rw [htk, List.filter_append, List.map_append, List.filter_cons, if_pos hq]
        exact p3.append (.cons hv .nil)
    | false =>
      refine iteF ⟨hlt, p1.trans e5, acc, e5 _ _ p2, ?_⟩
      rw [htk, List.filter_append, List.map_append, List.filter_cons, if_neg (by rw [hq]; decide)]
      simpa using p3
  · have e : i = l.length := by omega
    subst e
    have st := y.stop H3 (eB.trans p1)
    rw [List.length_map] at st
    rw [List.take_length] at p3
    exact .inl ⟨st, k _ H3 (e2.trans p1) (.lst p2 (p3.mono (eB.trans p1)))⟩
/-- y = [x for x in iter if test], y a local -/
theorem ws_lcS {scope : Scope} {own : List (Str × Nat)} {g : TG} {test : Expr} (i : Nat) {y : Str} {py spos : Pos} (q : α → Bool) (hN : X.N.Nodup) (ok : BlkOk X.N X.env.scope scope own) (hi : EvIS X σ H B tg iter (l.map E)) (hB : Ext B H) (hz : l.length ≤ 100000)
    (hg : ∀ s H C cl fp, PG (Bk X scope s H C cl fp) tg g) (hm : GMono g)
    (hs : ∀ d ∈ l, ∀ v H1, Ext B H1 → Is X.K B v (E d) → g v (wipe σ (own.map (·.2))) H1 fun σ2 H2 => H2 = H1 ∧ wipe σ2 (own.map (·.2)) = wipe σ (own.map (·.2)) ∧
      (∀ s H' C cl fp, EvT (Bk X scope s H' C cl fp) σ2 H1 test (q d)) ∧ (q d = true → ∀ s H' C cl fp H3, Ext H1 H3 → ∀ Q : VK, Q v H3 → WE (Bk X scope s H' C cl fp) elt σ2 H3 Q))
    (k : ∀ v H1, Ext H H1 → Is X.K H1 v (.lst ((l.filter q).map E)) → Dn.nx (σ.set i (some v)) H1) (hc : X.calm = true := by rfl) (hy : X.N[i]? = some y := by rfl) (hyl : X.env.scope.names.lookup y = some .local := by rfl) (hk : X.env.scope.kind = .function := by rfl) (hli : (py.line == pos.line) = true := by rfl)
    (hsc : (scope.names.any fun (n, k) => n == y && (k == .local || k == .cell)) = false := by decide +kernel) (hf : ∀ x, foldedSetIterable iter X.env x = pure x := by intro _; rfl) : WS X (.Assign [.Name y py] (.ListComp elt [⟨tg, iter, [test], 0⟩] scope pos) spos) Dn σ H :=
  WS.of (ps_setLc hc hN hy hyl (sw_true hk hyl hli hsc) WI.pi ok hg (tt := bkT X scope test) (fun s H C cl fp => pts_one ⟨fun pins s' σ H Q I h => (h _ _ _ _ _).run pins s' I⟩) (te := bkE X scope elt) (fun s H C cl fp => ⟨fun pins s' σ H Q I h => (h _ _ _ _ _).run pins s' I⟩) hf)
    (lc_readS q hi hB hz hm (fun d hd v H1 e1 hv => hm _ _ _ _ _ (fun σ2 H2 ⟨q1, q2, q3, q4⟩ => ⟨q1, q2, fun R hR s H' C cl fp => q3 s H' C cl fp H1 (Ext.refl _) R hR, q4⟩) (hs d hd v H1 e1 hv)) (Ext.refl _) fun v H2 e2 hv => k v H2 e2 hv)
theorem ev_lcS {scope : Scope} {own : List (Str × Nat)} {g : TG} {test : Expr} (q : α → Bool) (hN : X.N.Nodup) (ok : BlkOk X.N X.env.scope scope own) (hi : EvIS X σ H B tg iter (l.map E)) (hB : Ext B H) (hz : l.length ≤ 100000)
    (hg : ∀ s H C cl fp, PG (Bk X scope s H C cl fp) tg g) (hm : GMono g)
    (hs : ∀ d ∈ l, ∀ v H1, Ext B H1 → Is X.K B v (E d) → g v (wipe σ (own.map (·.2))) H1 fun σ2 H2 => H2 = H1 ∧ wipe σ2 (own.map (·.2)) = wipe σ (own.map (·.2)) ∧
      (∀ s H' C cl fp, EvT (Bk X scope s H' C cl fp) σ2 H1 test (q d)) ∧ (q d = true → ∀ s H' C cl fp H3, Ext H1 H3 → ∀ Q : VK, Q v H3 → WE (Bk X scope s H' C cl fp) elt σ2 H3 Q))
    (hc : X.calm = true := by rfl) (hf : ∀ x, foldedSetIterable iter X.env x = pure x := by intro _; rfl) : Ev X σ H (.ListComp elt [⟨tg, iter, [test], 0⟩] scope pos) (.lst ((l.filter q).map E)) := fun H1 e1 Q k =>
  WE.of (pe_lc hc hN WI.pi ok hg (tt := bkT X scope test) (fun s H C cl fp => pts_one ⟨fun pins s' σ H Q I h => (h _ _ _ _ _).run pins s' I⟩) (te := bkE X scope elt) (fun s H C cl fp => ⟨fun pins s' σ H Q I h => (h _ _ _ _ _).run pins s' I⟩) hf)
    (lc_readS q hi hB hz hm (fun d hd v H1 e1 hv => hm _ _ _ _ _ (fun σ2 H2 ⟨q1, q2, q3, q4⟩ => ⟨q1, q2, fun R hR s H' C cl fp => q3 s H' C cl fp H1 (Ext.refl _) R hR, q4⟩) (hs d hd v H1 e1 hv)) e1 k)
end
end Wb
/-! Counts; the defs over writings. -/
namespace Wb
open PySem PySem.Spec L2
section
variable {P : Program} {w : World} {K : PySem.W.Frag} {mg : Str → Option Value} {base : Heap}
/-- a def whose last parameter is None by default -/
theorem kp_dD {g : Str} {st : Stmt} {N ps : List Str} {k : Nat} {Rl : List D → D → Prop} (n : Nat) (T : Top w K mg) (i : Nat) (hi : fnAll[i]? = some (fnOne (g, none) g g st [.non])) (S : FnScope N ps (defScope st)) (hn : n + 1 = ps.length)
    (hb : ∀ (T : Addr) (kV doc pm : Value) (an : Option Addr) (cdv ct : Value) (us its : List Value), us.length = n + 1 → its.length = 1 → ∃ k, bindArgs (PySem.W.fnOf g g (defArgs st) (defBody st) (defScope st) (.ref T) kV doc pm an cdv ct) ⟨us, []⟩ = seqItems? (.ref T) >>= k ∧ k (some its.toArray) = pure (ps.zip us))
    (hb1 : ∀ (T : Addr) (kV doc pm : Value) (an : Option Addr) (cdv ct : Value) (us its : List Value), us.length = n → its.length = 1 → ∃ k, bindArgs (PySem.W.fnOf g g (defArgs st) (defBody st) (defScope st) (.ref T) kV doc pm an cdv ct) ⟨us, []⟩ = seqItems? (.ref T) >>= k ∧ k (some its.toArray) = pure (ps.zip (us ++ its)))
    (len : ∀ ds d, Rl ds d → ds.length = ps.length)
    (body : ∀ (cdv : Value) (A : Around) (outer : List Env) (s : Shared) (H : Hp) (vs : List V) (ds : List D) (d : D) (Q : VK) (E : XK), Room k (A.deeper (PyProof.Rows.envOfC g (defScope st) s.heap.objs.size (He.ga K g) cdv)) → IsAll K H vs ds → Rl ds d → (∀ v H', Ext H H' → Is K H' v d → Q v H') →
      WSs (Cd P w K mg base N g st cdv A outer s H E) (defBody st) { nx := fun _ H' => Q .non H', rt := Q } (start N vs) H) : Kp P w K mg base g ps [] (k + 1) (spD K Rl) ∧ Kp P w K mg base g ps [.non] (k + 1) (spD K Rl) := by
  obtain ⟨fd, F⟩ := T.dfn i _ hi
  have ok : FnOk P w K mg base CX0 (k + 1) (He.ga K g) fd ps (spD K Rl) := FunD.ok F S (fun vs H Q E ⟨ds, d, h1, h2, _⟩ => by rw [h1.length, len ds d h2]) fun cdv A outer s H vs Q E hr ⟨ds, d, h1, h2, h3⟩ => ⟨_, PSs.nox WSs.pss, body cdv A outer s H vs ds d Q E hr h1 h2 h3⟩
  have at_ := T.glo _ (List.mem_of_getElem? hi) rfl
  obtain ⟨its, v1, b1⟩ := FunD.binds1 F n 0 (by simp [He.DefD.dvs, fnOne]) (by simp [He.DefD.dvs, fnOne]; exact hn) (fun Ta kV doc pm an cdv ct us its h1 h2 => hb1 Ta kV doc pm an cdv ct us its h1 h2)
  obtain ⟨its2, v2, b2⟩ := FunD.binds1 F (n + 1) 1 (by simp [He.DefD.dvs, fnOne]) (by simp [He.DefD.dvs, fnOne]; exact hn) (fun Ta kV doc pm an cdv ct us its h1 h2 => by
    obtain ⟨k, e1, e2⟩ := hb Ta kV doc pm an cdv ct us its h1 h2
    have e3 : its.drop 1 = [] := by rw [List.drop_eq_nil_iff]; exact Nat.le_of_eq h2
    exact ⟨k, e1, by rw [e3, List.append_nil]; exact e2⟩)
  refine ⟨⟨⟨fd, its2, ok, b2, v2⟩, F.kp, at_⟩, ⟨⟨fd, its, ok, b1, v1⟩, F.kp, at_⟩⟩
/-! is_count, check_count -/
def Rcount : List D → D → Prop := fun ds d => ∃ i : Int, 0 ≤ i ∧ (ds = [.int i, .non] ∨ ∃ m : Int, i ≤ m ∧ ds = [.int i, .int m]) ∧ d = .bl true
theorem kp_is_count2 (T : Top w K mg) : Kp P w K mg base "is_count" ["value", "most"] [] 2 (spD K Rcount) ∧ Kp P w K mg base "is_count" ["value", "most"] [.non] 2 (spD K Rcount) := by
  refine kp_dD (N := ["value", "most"]) 1 T 1 rfl ⟨rfl, rfl, rfl, by decide +kernel, rfl, by decide +kernel, by decide +kernel⟩ rfl (fun _ _ _ _ _ _ _ us its h1 h2 => match us, its, h1, h2 with | [_, _], [_], _, _ => ⟨_, rfl, rfl⟩) (fun _ _ _ _ _ _ _ us its h1 h2 => match us, its, h1, h2 with | [_], [_], _, _ => ⟨_, rfl, rfl⟩) (fun ds d ⟨i, _, h, _⟩ => by rcases h with rfl | ⟨m, _, rfl⟩ <;> rfl) ?_
  rintro cdv A outer s H vs ds d Q E hr hv ⟨i, hi, hd, rfl⟩ k
  rcases hd with rfl | ⟨m, hm, rfl⟩
  · obtain ⟨v0, v1, rfl, h0, h1⟩ := isAll2 hv
    refine wss_one (ws_ret ?_ k)
    refine Ev.is (ev_and (c := true) (d := true) (ev_call (kp_is_whole T) hr (eva_cons (ev_v 0 h0) eva_nil) ⟨i, rfl, rfl⟩) fun _ => ?_) rfl
    refine Ev.is (ev_and (c := true) (d := true) (Ev.is (ev_ge (ev_v 0 h0) ev_int) (by rw [decide_eq_true hi])) fun _ => ?_) rfl
    exact ev_one (Ev.is (ev_or (c := true) (d := true) (Ev.is (ev_isNone (ev_v 1 h1) ev_non) rfl) fun z => by cases z) rfl)
  · obtain ⟨v0, v1, rfl, h0, h1⟩ := isAll2 hv
    refine wss_one (ws_ret ?_ k)
    refine Ev.is (ev_and (c := true) (d := true) (ev_call (kp_is_whole T) hr (eva_cons (ev_v 0 h0) eva_nil) ⟨i, rfl, rfl⟩) fun _ => ?_) rfl
    refine Ev.is (ev_and (c := true) (d := true) (Ev.is (ev_ge (ev_v 0 h0) ev_int) (by rw [decide_eq_true hi])) fun _ => ?_) rfl
    exact ev_one (Ev.is (ev_or (c := false) (d := true) (Ev.is (ev_isNone (ev_v 1 h1) ev_non) rfl) fun z => ev_one (Ev.is (ev_le (ev_v 0 h0) (ev_v 1 h1)) (by rw [decide_eq_true hm]))) rfl)
def RcheckN : List D → D → Prop := fun ds d => ∃ i : Int, 0 ≤ i ∧ ds = [.int i, .non] ∧ d = .non
theorem kp_check_count2 (T : Top w K mg) : Kp P w K mg base "check_count" ["value", "most"] [] 3 (spD K RcheckN) ∧ Kp P w K mg base "check_count" ["value", "most"] [.non] 3 (spD K RcheckN) := by
  refine kp_dD (N := ["value", "most"]) 1 T 2 rfl ⟨rfl, rfl, rfl, by decide +kernel, rfl, by decide +kernel, by decide +kernel⟩ rfl (fun _ _ _ _ _ _ _ us its h1 h2 => match us, its, h1, h2 with | [_, _], [_], _, _ => ⟨_, rfl, rfl⟩) (fun _ _ _ _ _ _ _ us its h1 h2 => match us, its, h1, h2 with | [_], [_], _, _ => ⟨_, rfl, rfl⟩) (fun ds d ⟨i, _, h, _⟩ => by rw [h]; rfl) ?_
  rintro cdv A outer s H vs ds d Q E hr hv ⟨i, hi, rfl, rfl⟩ k
  obtain ⟨v0, v1, rfl, h0, h1⟩ := isAll2 hv
  exact wss_one (ws_skip (evt_not (c := true) (evt_val (ev_call (kp_is_count2 T).1 hr (eva_cons (ev_v 0 h0) (eva_cons (ev_v 1 h1) eva_nil)) ⟨i, hi, .inl rfl, rfl⟩))) fun H1 e1 => k _ H1 e1 .non)
/-- a call, the last argument left out -/
theorem ev_callN {X : Cx} {e : Expr} {σ : L2.St} {H : Hp} {pos p : Pos} {g : Str} {ps : List Str} {k : Nat} {Rl : List D → D → Prop} {es : List Expr} {ds : List D} {d : D} (F : Kp X.prog X.w X.K X.mg X.base g ps [.non] k (spD X.K Rl)) (hr : Room k X.A) (ha : EvA X σ H (e :: es) ds) (h : Rl (ds ++ [.non]) d) (hg : Gl X g := by rfl) (hs : (e :: es).all noStar = true := by rfl) (hdb : (g == ("__debug__" : Str)) = false := by decide) :
    Ev X σ H (.Call (.Name g p) (e :: es) [] pos) d :=
  fun H1 e1 Q q => we_call F hr (ha H1 e1 _ fun vs H2 e2 hvs => ⟨ds ++ [.non], d, hvs.append (.cons .non .nil), h, fun v H3 e3 hv => q v H3 (e2.trans e3) hv⟩) hg hs hdb
/-! check_manuals -/
theorem op_eqLen {X : Cx} (hu : X.A.units + 64 < cLine) : OpR X (compareOp .Eq) (fun x y H Q => ∃ a b xs ys, x = V.ref a ∧ y = V.ref b ∧ SqL X.K H a xs ∧ SqL X.K H b ys ∧ xs.length ≠ ys.length ∧ Q (.bl false) H) := by
  rintro pins s σ H x y v u Q I rx ry ⟨a, b, xs, ys, rfl, rfl, qa, qb, hl, q⟩
  obtain rfl : v = Value.ref a := rx
  obtain rfl : u = Value.ref b := ry
  obtain ⟨us, r1, p1, _⟩ := I.list qa
  obtain ⟨ws, r2, p2, _⟩ := I.list qb
  have l1 := r1.length
  have l2 := r2.length
  exact PySem.SeqAt.eq_list_lengthsAt p1.isList p2.isList (by simp; omega) (by omega) ⟨.bl false, H, I, rfl, q⟩
theorem evt_eqLen {X : Cx} {a b : Expr} {σ : L2.St} {H : Hp} {pos : Pos} {xs ys : List D} (hu : X.A.units + 64 < cLine) (h : Ev X σ H a (.lst xs)) (h2 : Ev X σ H b (.lst ys)) (hl : xs.length ≠ ys.length) : EvT X σ H (.Compare a [.Eq] [b] pos) false :=
  evt_cmp (op_eqLen hu) (fun x y H hx hy Q q => by
    cases hx with
    | @lst p vs _ hs ha =>
    cases hy with
    | @lst p2 ws _ hs2 hb => exact ⟨p, p2, vs, ws, rfl, rfl, .of hs, .of hs2, by rw [ha.length, hb.length]; exact hl, q _ H (Ext.refl _) (.bl _)⟩) h h2
def RcheckMs : List D → D → Prop := fun ds d => ∃ m, ds = [.lst [.man m]] ∧ d = .non
abbrev N_check_manuals : List Str := ["value", "one"]
theorem kp_check_manuals (T : Top w K mg) : Kp P w K mg base "check_manuals" ["value"] [] 1 (spD K RcheckMs) := by
  have hN : N_check_manuals.Nodup := by decide +kernel
  refine kp_d (N := N_check_manuals) T 9 rfl ⟨rfl, rfl, rfl, hN, rfl, by decide +kernel, by decide +kernel⟩ (fun _ _ _ _ _ _ us hl => match us, hl with | [_], _ => rfl) (fun ds d ⟨m, h, _⟩ => by rw [h]; rfl) ?_
  rintro cdv A outer s H vs ds d Q E hr hv ⟨m, rfl, rfl⟩ k
  obtain ⟨v0, rfl, h0⟩ := isAll1 hv
  refine wss_one (ws_skip (EvW.t ?_) fun H1 e1 => k _ H1 e1 .non)
  refine EvW.is (evw_or (c := false) (d := false) (evt_not (c := true) (evt_val (ev_isi T.f_isinstance T.f_list PyProof.Rows.boot_list (ev_v 0 h0) k_ll))) fun _ => ?_) rfl
  refine EvW.is (evw_or (c := false) (d := false) (evt_eqLen hr.units (ev_v 0 h0) (ev_lst eva_nil (by show 0 ≤ 100000; decide)) (by show 1 ≠ 0; decide)) fun _ => ?_) rfl
  refine evw_or1 (EvT.is (evt_not (c := true) (evt_val ?_)) rfl)
  refine Ev.is (ev_allB (bs := [true]) rfl T.f_all (ev_lcN (l := [m]) (E := D.man) (own := [("one", 1)]) (g := gName 1) (fun _ => .bl true) rfl hN (blkOk_by (by kernel_rfl)) (EvIB.i (evi_list (evb_v 0 h0) (Ext.refl _)) (Ext.refl _)) (by show 1 ≤ 100000; decide) (fun _ _ _ _ _ => pgn 1 hN) gm_name ?_ (fun _ _ => noLst_bl _))) rfl
  intro m' _ v1 H1 e1 i1
  exact ⟨rfl, rfl, fun _ _ _ _ _ => ev_isMan T (ev_v 1 i1)⟩
/-! check_asked -/
def RcheckA : List D → D → Prop := fun ds d => ∃ (m : Mn) (e : Ex) (k : Nat), e.wf ∧ e.dep ≤ 12 ∧ ds = [.lst [.man m], e.d, .int (k : Int)] ∧ d = .non
abbrev N_check_asked : List Str := ["manuals", "expression", "number"]
theorem kp_check_asked (T : Top w K mg) : Kp P w K mg base "check_asked" ["manuals", "expression", "number"] [] 16 (spD K RcheckA) := by
  have hN : N_check_asked.Nodup := by decide +kernel
  refine kp_d (N := N_check_asked) T 54 rfl ⟨rfl, rfl, rfl, hN, rfl, by decide +kernel, by decide +kernel⟩ (fun _ _ _ _ _ _ us hl => match us, hl with | [_, _, _], _ => rfl) (fun ds d ⟨m, e, n, _, _, h, _⟩ => by rw [h]; rfl) ?_
  rintro cdv A outer s H vs ds d Q E hr hv ⟨m, e, n, wf, dk, rfl, rfl⟩ k
  obtain ⟨v0, v1, v2, rfl, h0, h1, h2⟩ := isAll3 hv
  refine wss_cons (ws_expr (ev_call (kp_check_manuals T) (hr.mono (by decide)) (eva_cons (ev_v 0 h0) eva_nil) ⟨m, rfl, rfl⟩) fun H1 e1 => ?_)
  refine wss_cons (ws_expr (ev_call (kp_check_expression T) (hr.mono (by decide)) (eva_cons (ev_v 1 (h1.mono e1)) (eva_cons ev_bl eva_nil)) ⟨e, wf, dk, rfl, rfl⟩) fun H2 e2 => ?_)
  exact wss_one (ws_expr (ev_callN (kp_check_count2 T).2 (hr.mono (by decide)) (eva_cons (ev_v 2 (h2.mono (e1.trans e2))) eva_nil) ⟨n, by omega, rfl, rfl⟩) fun H3 e3 => k _ H3 (e1.trans (e2.trans e3)) .non)
end
end Wb
/-! The defs over writings' sizes and books. -/
namespace Wb
open PySem PySem.Spec L2
mutual
/-- the size of a writing -/
def sz (m : Mn) (num : Nat) : Ex → Nat
  | .job _ => 1
  | .row es => szs m num es
  | .again e => (num + 1) * max m.rooms.length 1 * (stK m.rooms.length (exC m e) + 1) * sz m num e
def szs (m : Mn) (num : Nat) : List Ex → Nat
  | [] => 0
  | e :: es => sz m num e + szs m num es
end
mutual
/-- the writing -/
def bk (m : Mn) (num : Nat) : Ex → List Str
  | .job s => [s]
  | .row es => bks m num es
  | .again e => (List.replicate (sz m num (.again e) / (bk m num e).length) (bk m num e)).flatten
def bks (m : Mn) (num : Nat) : List Ex → List Str
  | [] => []
  | e :: es => (if 0 < sz m num e then bk m num e else []) ++ bks m num es
end
theorem szs_map (m : Mn) (num : Nat) : ∀ es : List Ex, szs m num es = (es.map (sz m num)).sum
  | [] => by rw [szs]; rfl
  | e :: es => by rw [szs, szs_map m num es]; rfl
theorem bks_flat (m : Mn) (num : Nat) : ∀ es : List Ex, bks m num es = (es.filter fun e => decide (0 < sz m num e)).flatMap (bk m num)
  | [] => by rw [bks]; rfl
  | e :: es => by
    rw [bks, bks_flat m num es, List.filter_cons]
    by_cases h : 0 < sz m num e
    · rw [if_pos h, if_pos (decide_eq_true h)]; rfl
    · rw [if_neg h, if_neg (by rw [decide_eq_false h]; decide)]; rfl
theorem flat_rep {α : Type} (l : List α) (n : Nat) : (List.replicate n l).flatten.length = n * l.length := by
  induction n with
  | zero => simp
  | succ n ih => rw [List.replicate_succ, List.flatten_cons, List.length_append, ih, Nat.succ_mul]; omega
mutual
theorem bk_len (m : Mn) (num : Nat) : ∀ e : Ex, (bk m num e).length = sz m num e
  | .job s => by rw [bk, sz]; rfl
  | .row es => by rw [bk, sz]; exact bks_len m num es
  | .again e => by
    rw [bk, flat_rep, bk_len m num e]
    by_cases h : sz m num e = 0
    · rw [sz, h]; simp
    · exact Nat.div_mul_cancel ⟨(num + 1) * max m.rooms.length 1 * (stK m.rooms.length (exC m e) + 1), by rw [sz, Nat.mul_comm]⟩
theorem bks_len (m : Mn) (num : Nat) : ∀ es : List Ex, (bks m num es).length = szs m num es
  | [] => by rw [bks, szs]; rfl
  | e :: es => by
    rw [bks, szs, List.length_append, bks_len m num es]
    by_cases h : 0 < sz m num e
    · rw [if_pos h, bk_len m num e]
    · rw [if_neg h]
      have : sz m num e = 0 := by omega
      rw [this]; rfl
end
theorem sum_cast {α : Type} (f : α → Nat) : ∀ l : List α, (l.map fun x => (f x : Int)).sum = (((l.map f).sum : Nat) : Int)
  | [] => rfl
  | x :: l => by rw [List.map_cons, List.sum_cons, List.map_cons, List.sum_cons, sum_cast f l]; omega
theorem szs_mem {m : Mn} {num : Nat} : ∀ {es : List Ex} {e : Ex}, e ∈ es → sz m num e ≤ szs m num es
  | x :: es, e, h => by
    rw [szs]
    rcases List.mem_cons.mp h with rfl | h
    · omega
    · have := szs_mem (m := m) (num := num) h; omega
section
variable {P : Program} {w : World} {K : PySem.W.Frag} {mg : Str → Option Value} {base : Heap}
/-! least_copies -/
def Rleast : List D → D → Prop := fun ds d => ∃ (m : Mn) (e : Ex), WfM m ∧ e.wf ∧ e.dep ≤ 12 ∧ ds = [.lst [.man m], e.d] ∧ d = .int ((stK m.rooms.length (exC m e) : Nat) + 1 : Int)
abbrev N_least_copies : List Str := ["manuals", "body", "cards", "manual", "powers", "copies", "power", "card"]
theorem kp_least_copies (T : Top w K mg) : Kp P w K mg base "least_copies" ["manuals", "body"] [] 19 (spD K Rleast) := by
  have hN : N_least_copies.Nodup := by decide +kernel
  refine kp_d (N := N_least_copies) T 50 rfl ⟨rfl, rfl, rfl, hN, rfl, by decide +kernel, by decide +kernel⟩ (fun _ _ _ _ _ _ us hl => match us, hl with | [_, _], _ => rfl) (fun ds d ⟨m, e, _, _, _, h, _⟩ => by rw [h]; rfl) ?_
  rintro cdv A outer s H vs ds d Q E hr hv ⟨m, e, wm, wf, dk, rfl, rfl⟩ k
  obtain ⟨v0, v1, rfl, h0, h1⟩ := isAll2 hv
  have small : m.rooms.length ≤ 1000 := Nat.le_trans wm.small (by decide)
  obtain ⟨n, hn⟩ : ∃ n, n = m.rooms.length := ⟨_, rfl⟩
  obtain ⟨f, hf⟩ : ∃ f, f = exC m e := ⟨_, rfl⟩
  rw [← hn, ← hf] at k
  rw [← hn] at small
  obtain ⟨st, least⟩ := stK_spec n f
  refine wss_cons (ws_lcN 2 (l := [m]) (E := D.man) (own := [("manual", 3)]) (g := gName 3) (fun _ => cardD n f) hN (blkOk_by (by kernel_rfl)) (EvIB.i (evi_list (evb_v 0 h0) (Ext.refl _)) (Ext.refl _)) (by show 1 ≤ 100000; decide) (fun _ _ _ _ _ => pgn 3 hN) gm_name ?_ (fun _ _ => noLst_cardD _ _) fun v2 H1 e1 h2 => ?_)
  · intro m' hm' v3 H1 e1 h3
    rcases List.mem_singleton.mp hm' with rfl
    exact ⟨rfl, rfl, fun _ _ _ _ _ => ev_call (kp_excard T 12) (hr.mono (by decide)) (eva_cons (ev_v 3 h3) (eva_cons (ev_v 1 (h1.mono e1)) eva_nil)) ⟨m', e, wm, wf, dk, rfl, by rw [hn, hf]⟩⟩
  have h2 : Is K H1 v2 (.lst [cardD n f]) := h2
  refine wss_cons (ws_par 4 5 hN (ev_v 2 h2) ev_int fun v4 v5 H2 e2 h4 h5 => ?_)
  refine wss_cons (ws_while PassesOwn.never (fun mm σ' H' => ∃ c w3 w4 w5 w6 w7, c ≤ stK n f ∧ mm = stK n f - c ∧ σ' = [some v0, some v1, some v2, w3, some w4, some w5, w6, w7] ∧ Ext H1 H' ∧ Is K H' w4 (.lst [cardD n (pw n f c)]) ∧ Is K H' w5 (.int ((c : Nat) + 1 : Int))) (stK n f)
    ⟨0, _, _, _, _, _, Nat.zero_le _, rfl, rfl, e2, h4, by rw [show ((0 : Nat) : Int) + 1 = 1 from rfl]; exact h5⟩ ?_)
  rintro mm σ' H' ⟨c, w3, w4, w5, w6, w7, hc, rfl, rfl, e3, i4, i5⟩
  refine ⟨!decide (Steady n (pw n f c)), evt_not (evt_val (Ev.is (ev_allB (bs := [decide (Steady n (pw n f c))]) rfl T.f_all (ev_lcN (l := [pw n f c]) (E := cardD n) (own := [("power", 6)]) (g := gName 6) (fun g => .bl (decide (Steady n g))) rfl hN (blkOk_by (by kernel_rfl)) (EvIB.i (evi_list (evb_v 4 i4) (Ext.refl _)) (Ext.refl _)) (by show 1 ≤ 100000; decide) (fun _ _ _ _ _ => pgn 6 hN) gm_name ?_ (fun _ _ => noLst_bl _))) (by simp))), fun q H4 e4 => ?_, fun q H4 e4 => ?_⟩
  · intro g _ v6 H4 e4 i6
    exact ⟨rfl, rfl, fun _ _ _ _ _ => ev_eqC hr.units (ev_call (kp_joined T) (hr.mono (by decide)) (eva_cons (ev_v 6 i6) (eva_cons (ev_v 6 i6) eva_nil)) ⟨n, _, _, small, rfl, rfl⟩) (ev_v 6 i6)⟩
  · have ns : ¬ Steady n (pw n f c) := fun z => by rw [decide_eq_true z] at q; cases q
    have hc' : c < stK n f := Nat.lt_of_le_of_ne hc fun z => ns (by rw [z]; exact st)
    refine wss_cons (ws_lcN 4 (l := [()]) (E := fun _ => .tup [cardD n (pw n f c), cardD n f]) (own := [("power", 6), ("card", 7)]) (g := gTup K 2 (gCons (gName 6) (gCons (gName 7) gNil))) (fun _ => cardD n (pw n f (c + 1))) hN (blkOk_by (by kernel_rfl)) (show EvI _ _ _ _ _ (zipD [cardD n (pw n f c)] [cardD n f]) from evi_zipS T.f_zip (ev_v 4 (i4.mono e4)) (ev_v 2 (h2.mono (e3.trans e4))) rfl) (by show 1 ≤ 100000; decide) (fun _ _ _ _ _ => pg2 6 7 rfl hN) gm2 ?_ (fun _ _ => noLst_cardD _ _) fun u4 H5 e5 j4 => ?_)
    · intro _ _ v H5 e5 hv
      exact gTup2 hv fun v6 v7 i6 i7 => ⟨rfl, rfl, fun _ _ _ _ _ => ev_call (kp_joined T) (hr.mono (by decide)) (eva_cons (ev_v 6 i6) (eva_cons (ev_v 7 i7) eva_nil)) ⟨n, _, _, small, rfl, rfl⟩⟩
    · refine wss_one (ws_augI 5 hN (i5.mono (e4.trans e5)) ev_int fun u5 H6 e6 j5 => ?_)
      refine ⟨stK n f - (c + 1), by omega, c + 1, _, _, _, _, _, hc', rfl, rfl, e3.trans (e4.trans (e5.trans e6)), j4.mono e6, ?_⟩
      have e : ((c + 1 : Nat) : Int) + 1 = (c : Int) + 1 + 1 := by omega
      rw [e]; exact j5
  · have s : Steady n (pw n f c) := by
      by_cases z : Steady n (pw n f c)
      · exact z
      · rw [decide_eq_false z] at q; cases q
    have e : c = stK n f := Nat.le_antisymm hc (Nat.le_of_not_lt fun z => least c z s)
    subst e
    exact wss_one (ws_ret (ev_v 5 (i5.mono e4)) fun v H5 e5 hv => k v H5 (e1.trans (e3.trans (e4.trans e5))) hv)
/-! size_from -/
def Rsize (k : Nat) : List D → D → Prop := fun ds d => ∃ (m : Mn) (e : Ex) (num : Nat), WfM m ∧ e.wf ∧ e.dep ≤ k ∧ k ≤ 12 ∧ num ≤ 100 ∧ ds = [.lst [.man m], e.d, .int (num : Int)] ∧ d = .int (sz m num e : Int)
theorem kp_size_of (T : Top w K mg) (k : Nat) (ih : ∀ j, j + 1 = k → Kp P w K mg base "size_from" ["manuals", "expression", "number"] [] (j + 20) (spD K (Rsize j))) : Kp P w K mg base "size_from" ["manuals", "expression", "number"] [] (k + 20) (spD K (Rsize k)) := by
  have hN : (["manuals", "expression", "number", "part", "rooms", "manual"] : List Str).Nodup := by decide +kernel
  refine kp_d (N := ["manuals", "expression", "number", "part", "rooms", "manual"]) T 51 rfl ⟨rfl, rfl, rfl, hN, rfl, by decide +kernel, by decide +kernel⟩ (fun _ _ _ _ _ _ us hl => match us, hl with | [_, _, _], _ => rfl) (fun ds d ⟨m, e, num, _, _, _, _, _, h, _⟩ => by rw [h]; rfl) ?_
  rintro cdv A outer s H vs ds d Q E hr hv ⟨m, e, num, wm, wf, dk, k12, hnum, rfl, rfl⟩ kk
  obtain ⟨v0, v1, v2, rfl, h0, h1, h2⟩ := isAll3 hv
  cases e with
  | job x =>
    rw [Ex.wf] at wf
    have h1 : Is K H v1 (.str x) := by rw [Ex.d] at h1; exact h1
    refine wss_cons (ws_if (c := true) (evt_val (ev_call (kp_is_spelt T) (hr.mono (by omega)) (eva_cons (ev_v 1 h1) eva_nil) (.inl ⟨x, rfl, wf, rfl⟩))) (fun _ H1 e1 => ?_) fun z => by cases z)
    exact wss_one (ws_ret (Ev.is ev_int (by rw [sz]; rfl)) fun v H2 e2 hv => kk v H2 (e1.trans e2) hv)
  | row es =>
    rw [Ex.wf] at wf
    rw [Ex.dep] at dk
    have h1 : Is K H v1 (.tup [.str "row", .lst (es.map Ex.d)]) := by rw [Ex.d, Ex.ds_map] at h1; exact h1
    obtain ⟨j, rfl⟩ : ∃ j, k = j + 1 := ⟨k - 1, by omega⟩
    refine wss_cons (ws_skip (evt_val (ev_call (kp_is_spelt T) (hr.mono (by omega)) (eva_cons (ev_v 1 h1) eva_nil) (.inr ⟨_, rfl, rfl⟩))) fun H1 e1 => ?_)
    refine wss_cons (ws_if (c := true) (EvT.is (evt_eqS (ev_ixTc 0 (d := .str "row") rfl (ev_v 1 (h1.mono e1))) ev_str) (decide_eq_true rfl)) (fun _ H2 e2 => ?_) fun z => by cases z)
    have ee := e1.trans e2
    refine wss_one (ws_ret (Ev.is (ev_sumI (is := es.map fun x => (sz m num x : Int)) rfl T.f_sum (Ev.is (ev_lcN (l := es) (E := Ex.d) (own := [("part", 3)]) (g := gName 3) (fun x => .int (sz m num x : Int)) rfl hN (blkOk_by (by kernel_rfl)) (evi_listF (ev_ixTc 1 (d := .lst (es.map Ex.d)) rfl (ev_v 1 (h1.mono ee)))) (Nat.le_trans wf.1 (by decide)) (fun _ _ _ _ _ => pgn 3 hN) gm_name ?_ (fun _ _ => noLst_int _)) (by rw [List.map_map]; rfl))) ?_) fun v H4 e4 hv => kk v H4 (ee.trans e4) hv)
    · intro x hx v3 H3 e3 h3
      have := Ex.dep_mem hx
      exact ⟨rfl, rfl, fun _ _ _ _ _ => ev_call (ih j rfl) (hr.mono (by omega)) (eva_cons (ev_v 0 (h0.mono (ee.trans e3))) (eva_cons (ev_v 3 h3) (eva_cons (ev_v 2 (h2.mono (ee.trans e3))) eva_nil))) ⟨m, x, num, wm, Ex.wf_mem wf.2 hx, by omega, by omega, hnum, rfl, rfl⟩⟩
    · rw [sz, szs_map, sum_cast]
  | again x =>
    rw [Ex.wf] at wf
    rw [Ex.dep] at dk
    have h1 : Is K H v1 (.tup [.str "again", x.d]) := by rw [Ex.d] at h1; exact h1
    obtain ⟨j, rfl⟩ : ∃ j, k = j + 1 := ⟨k - 1, by omega⟩
    have small := wm.small
    have st := stK_small (exC m x) small
    refine wss_cons (ws_skip (evt_val (ev_call (kp_is_spelt T) (hr.mono (by omega)) (eva_cons (ev_v 1 h1) eva_nil) (.inr ⟨_, rfl, rfl⟩))) fun H1 e1 => ?_)
    refine wss_cons (ws_skip (EvT.is (evt_eqS (ev_ixTc 0 (d := .str "again") rfl (ev_v 1 (h1.mono e1))) ev_str) (by decide +kernel)) fun H2 e2 => ?_)
    have ee := e1.trans e2
    refine wss_cons (ws_set hN (i := 4) (d := .int ((max m.rooms.length 1 : Nat) : Int)) (ev_callB (ds := [.lst ([(m.rooms.length : Int), 1].map .int)]) (cr_max rfl) (rc_max (by show 0 < 2; decide) fun k hk hle => ?_) T.f_max PyProof.Rows.boot_max (eva_cons (Ev.is (ev_catL (ev_lcN (l := [m]) (E := D.man) (own := [("manual", 5)]) (g := gName 5) (fun _ => .int (m.rooms.length : Int)) rfl hN (blkOk_by (by kernel_rfl)) (EvIB.i (evi_list (evb_v 0 (h0.mono ee)) (Ext.refl _)) (Ext.refl _)) (by show 1 ≤ 100000; decide) (fun _ _ _ _ _ => pgn 5 hN) gm_name ?_ (fun _ _ => noLst_int _)) (ev_lst (eva_cons ev_int eva_nil) (by show 1 ≤ 100000; decide)) (by show 2 ≤ 100000; decide)) rfl) eva_nil)) fun v4 H3 e3 h4 => ?_)
    · have a1 := hle _ (.head _)
      have a2 := hle _ (.tail _ (.head _))
      rcases List.mem_cons.mp hk with rfl | hk
      · omega
      · rw [List.mem_singleton.mp hk] at a1 ⊢; omega
    · intro m' hm' v5 H3 e3 h5
      rcases List.mem_singleton.mp hm' with rfl
      exact ⟨rfl, rfl, fun _ _ _ _ _ => Ev.is (ev_lenL T.f_len (ev_rooms T (ev_v 5 h5))) (by rw [List.length_map])⟩
    · have e4 := ee.trans e3
      have hmax : max m.rooms.length 1 ≤ 3 := Nat.max_le.mpr ⟨small, by decide⟩
      have b1 : (num + 1) * max m.rooms.length 1 ≤ 303 := Nat.le_trans (Nat.mul_le_mul (by omega : num + 1 ≤ 101) hmax) (by decide)
      have b2 : (num + 1) * max m.rooms.length 1 * (stK m.rooms.length (exC m x) + 1) ≤ 303 * 1953126 := Nat.mul_le_mul b1 (by omega)
      have c1 : ((num : Int) + 1) * ((max m.rooms.length 1 : Nat) : Int) = (((num + 1) * max m.rooms.length 1 : Nat) : Int) := by push_cast; rfl
      have c2 : (((num + 1) * max m.rooms.length 1 : Nat) : Int) * ((stK m.rooms.length (exC m x) : Nat) + 1 : Int) = (((num + 1) * max m.rooms.length 1 * (stK m.rooms.length (exC m x) + 1) : Nat) : Int) := by push_cast; rfl
      refine wss_one (ws_ret (Ev.is (ev_mul (i := (((num + 1) * max m.rooms.length 1 * (stK m.rooms.length (exC m x) + 1) : Nat) : Int)) (by omega) (Ev.is (ev_mul (i := (((num + 1) * max m.rooms.length 1 : Nat) : Int)) (by omega) (Ev.is (ev_mul (i := (num : Int) + 1) (by omega) (ev_add (ev_v 2 (h2.mono e4)) ev_int) (ev_v 4 h4)) (by rw [c1]))
        (ev_call (kp_least_copies T) (hr.mono (by omega)) (eva_cons (ev_v 0 (h0.mono e4)) (eva_cons (ev_ixTc 1 (d := x.d) rfl (ev_v 1 (h1.mono e4))) eva_nil)) ⟨m, x, wm, wf, by omega, rfl, rfl⟩)) (by rw [c2]))
        (ev_call (ih j rfl) (hr.mono (by omega)) (eva_cons (ev_v 0 (h0.mono e4)) (eva_cons (ev_ixTc 1 (d := x.d) rfl (ev_v 1 (h1.mono e4))) (eva_cons (ev_v 2 (h2.mono e4)) eva_nil))) ⟨m, x, num, wm, wf, by omega, by omega, hnum, rfl, rfl⟩)) (by rw [sz]; push_cast; rfl)) fun v H5 e5 hv => kk v H5 (e4.trans e5) hv)
theorem kp_size (T : Top w K mg) : ∀ k, Kp P w K mg base "size_from" ["manuals", "expression", "number"] [] (k + 20) (spD K (Rsize k))
  | 0 => kp_size_of T 0 fun j h => by cases h
  | k + 1 => kp_size_of T (k + 1) fun j h => by cases h; exact kp_size T k
end
end Wb
/-! The defs over writings' books. -/
namespace Wb
open PySem PySem.Spec L2
/-- a promise of a new list of texts -/
def spB (K : PySem.W.Frag) (Rl : List D → List Str → Prop) : Sp := fun vs H Q _ => ∃ ds ss, IsAll K H vs ds ∧ Rl ds ss ∧ ∀ a H', Ext H H' → H a = none → H' a = some (.lst (ss.map V.str)) → Q (.ref a) H'
theorem is_strs {K : PySem.W.Frag} {H : Hp} {a : Addr} {ss : List Str} (h : H a = some (.lst (ss.map V.str))) : Is K H (.ref a) (bookD ss) := .lst h (isAll_ofStrs ss)
def Rbk (k : Nat) : List D → List Str → Prop := fun ds ss => ∃ (m : Mn) (e : Ex) (num : Nat), WfM m ∧ e.wf ∧ e.dep ≤ k ∧ k ≤ 12 ∧ num ≤ 100 ∧ 0 < sz m num e ∧ sz m num e ≤ 400 ∧ ds = [.lst [.man m], e.d, .int (num : Int)] ∧ ss = bk m num e
section
variable {P : Program} {w : World} {K : PySem.W.Frag} {mg : Str → Option Value} {base : Heap}
section
variable {X : Cx} {e a b : Expr} {σ : L2.St} {H : Hp} {pos p : Pos} {Q : VK}
theorem we_callB {g : Str} {ps : List Str} {k : Nat} {Rl : List D → List Str → Prop} {es : List Expr} {ds : List D} {ss : List Str} (F : Kp X.prog X.w X.K X.mg X.base g ps [] k (spB X.K Rl)) (hr : Room k X.A) (ha : EvA X σ H (e :: es) ds) (h : Rl ds ss) (kk : ∀ a H2, Ext H H2 → H a = none → H2 a = some (.lst (ss.map V.str)) → Q (.ref a) H2) (hg : Gl X g := by rfl) (hs : (e :: es).all noStar = true := by rfl) (hdb : (g == ("__debug__" : Str)) = false := by decide) :
    WE X (.Call (.Name g p) (e :: es) [] pos) σ H Q :=
  we_call F hr (ha H (Ext.refl _) _ fun vs H2 e2 hvs => ⟨ds, ss, by rw [List.append_nil]; exact hvs, h, fun a H3 e3 hn hl => kk a H3 (e2.trans e3) (e2.back hn) hl⟩) hg hs hdb
theorem ws_ret' {Dn : Ends} (h : WE X e σ H Dn.rt) : WS X (.Return (some e) pos) Dn σ H := WS.of (ps_ret WE.pe) h
theorem ev_fdiv {i j : Int} (h0 : 0 < j) (h1 : j < 1073741824) (h : Ev X σ H a (.int i)) (h2 : Ev X σ H b (.int j)) : Ev X σ H (.BinOp a .FloorDiv b pos) (.int (i / j)) := ev_bin op_fdiv (r2_Ii ⟨h0, h1⟩) h h2
end
theorem kp_bk_of (T : Top w K mg) (k : Nat) (ih : ∀ j, j + 1 = k → Kp P w K mg base "book_from" ["manuals", "expression", "number"] [] (j + 34) (spB K (Rbk j))) : Kp P w K mg base "book_from" ["manuals", "expression", "number"] [] (k + 34) (spB K (Rbk k)) := by
  have hN : (["manuals", "expression", "number", "parts", "part", "job", "body"] : List Str).Nodup := by decide +kernel
  refine kp_of (N := ["manuals", "expression", "number", "parts", "part", "job", "body"]) T 52 rfl ⟨rfl, rfl, rfl, hN, rfl, by decide +kernel, by decide +kernel⟩ (fun _ _ _ _ _ _ us hl => match us, hl with | [_, _, _], _ => rfl) (fun vs H Q E ⟨ds, ss, hv, ⟨m, e, num, _, _, _, _, _, _, _, h, _⟩, _⟩ => by rw [hv.length, h]; rfl) ?_
  rintro cdv A outer s H vs Q E hr ⟨ds, ss, hv, ⟨m, e, num, wm, wf, dk, k12, hnum, pos0, s400, rfl, rfl⟩, kk⟩
  obtain ⟨v0, v1, v2, rfl, h0, h1, h2⟩ := isAll3 hv
  cases e with
  | job x =>
    rw [Ex.wf] at wf
    have h1 : Is K H v1 (.str x) := by rw [Ex.d] at h1; exact h1
    rw [bk] at kk
    refine wss_cons (ws_if (c := true) (evt_val (ev_call (kp_is_spelt T) (hr.mono (by omega)) (eva_cons (ev_v 1 h1) eva_nil) (.inl ⟨x, rfl, wf, rfl⟩))) (fun _ H1 e1 => ?_) fun z => by cases z)
    refine wss_one (ws_ret' (WE.of (pe_lst (pa_cons WE.pe pa_nil)) ?_))
    refine (ev_v 1 (h1.mono e1)) _ (Ext.refl _) _ fun v H2 e2 hv2 => ?_
    cases hv2
    exact ⟨by show 1 ≤ sizeLine; decide, fun q hq => kk q _ (e1.trans (e2.trans (Ext.new hq))) ((e1.trans e2).back hq) upd_same⟩
  | row es =>
    rw [Ex.wf] at wf
    rw [Ex.dep] at dk
    rw [sz] at s400
    have h1 : Is K H v1 (.tup [.str "row", .lst (es.map Ex.d)]) := by rw [Ex.d, Ex.ds_map] at h1; exact h1
    obtain ⟨j, rfl⟩ : ∃ j, k = j + 1 := ⟨k - 1, by omega⟩
    refine wss_cons (ws_skip (evt_val (ev_call (kp_is_spelt T) (hr.mono (by omega)) (eva_cons (ev_v 1 h1) eva_nil) (.inr ⟨_, rfl, rfl⟩))) fun H1 e1 => ?_)
    refine wss_cons (ws_if (c := true) (EvT.is (evt_eqS (ev_ixTc 0 (d := .str "row") rfl (ev_v 1 (h1.mono e1))) ev_str) (decide_eq_true rfl)) (fun _ H2 e2 => ?_) fun z => by cases z)
    have ee := e1.trans e2
    refine wss_cons (ws_lcS 3 (B := H) (l := es) (E := Ex.d) (own := [("part", 4)]) (g := gName 4) (fun x => decide (0 < sz m num x)) hN (blkOk_by (by kernel_rfl)) (evs_list (evb_ixTc 1 rfl (evb_v 1 h1) ee) ee) ee (Nat.le_trans wf.1 (by decide)) (fun _ _ _ _ _ => pgn 4 hN) gm_name ?_ fun v3 H3 e3 h3 => ?_)
    · intro x hx v4 H3 e3 h4
      have := Ex.dep_mem hx
      refine ⟨rfl, rfl, fun _ _ _ _ _ => ?_, fun _ _ _ _ _ _ H4 e4 Q q => we_v 4 q⟩
      refine EvT.is (evt_gt (ev_call (kp_size T j) (hr.mono (by omega)) (eva_cons (ev_v 0 (h0.mono e3)) (eva_cons (ev_v 4 (h4.mono e3)) (eva_cons (ev_v 2 (h2.mono e3)) eva_nil))) ⟨m, x, num, wm, Ex.wf_mem wf.2 hx, by omega, by omega, hnum, rfl, rfl⟩) ev_int) ?_
      simp
    · have e13 := ee.trans e3
      rw [bk, bks_flat] at kk
      have tot : ((es.filter fun x => decide (0 < sz m num x)).flatMap fun a => (bk m num a).map D.str).length ≤ 100000 := by
        have h1 := bks_len m num es
        rw [bks_flat] at h1
        have h2 : ((es.filter fun x => decide (0 < sz m num x)).flatMap fun a => (bk m num a).map D.str) = ((es.filter fun x => decide (0 < sz m num x)).flatMap (bk m num)).map D.str := by rw [List.map_flatMap]
        rw [h2, List.length_map]
        omega
      refine wss_one (ws_ret' (we_lc2 (l := es.filter fun x => decide (0 < sz m num x)) (E := Ex.d) (l2 := bk m num) (E2 := D.str) (own := [("part", 4), ("job", 5)]) (vs1 := [5]) (g := gName 4) (g1 := gName 5) (fun _ s => .str s) rfl hN (blkOk_by (by kernel_rfl)) (by decide) (EvIB.i (evi_list (evb_v 3 h3) (Ext.refl _)) (Ext.refl _)) tot (fun _ _ _ _ _ => pgn 4 hN) (fun _ _ _ _ _ => pgn 5 hN) gm_name gm_name ?_ (fun _ _ _ _ => noLst_str _) (Ext.refl _) fun a H4 e4 hn hv4 => ?_))
      · intro x hx v4 H4 e4 h4 Dl _ hD1
        obtain ⟨hxm, hxs⟩ := List.mem_filter.mp hx
        have hxs : 0 < sz m num x := of_decide_eq_true hxs
        have := Ex.dep_mem hxm
        have := szs_mem (m := m) (num := num) hxm
        have e14 := e13.trans e4
        refine ⟨rfl, rfl, fun s' H' C cl fp R q => WI.of (pi_list WE.pe) ?_, fun b hb u H' e' hu => ⟨rfl, rfl, fun _ _ _ _ _ => ev_v 5 hu⟩⟩
        refine we_callB (ih j rfl) (hr.mono (by omega)) (eva_cons (ev_v 0 (h0.mono e14)) (eva_cons (ev_v 4 h4) (eva_cons (ev_v 2 (h2.mono e14)) eva_nil))) ⟨m, x, num, wm, Ex.wf_mem wf.2 hxm, by omega, by omega, hnum, hxs, by omega, rfl, rfl⟩ fun a H5 e5 hn hl => ?_
        have hne : a ≠ Dl := fun z => by obtain ⟨o, ho⟩ := hD1; rw [z, ho] at hn; cases hn
        exact ⟨a, rfl, ⟨_, .of hl⟩, q _ H5 e5 (yl_list (is_strs (by rw [wo_ne hne]; exact hl)))⟩
      · have h2 : ((es.filter fun x => decide (0 < sz m num x)).flatMap fun a => (bk m num a).map D.str) = ((es.filter fun x => decide (0 < sz m num x)).flatMap (bk m num)).map D.str := by rw [List.map_flatMap]
        rw [h2] at hv4
        cases hv4 with
        | lst hl ha =>
          rw [isAll_strs ha] at hl
          exact kk a H4 (e13.trans e4) (e13.back hn) hl
  | again x =>
    rw [Ex.wf] at wf
    rw [Ex.dep] at dk
    have h1' := h1
    have h1 : Is K H v1 (.tup [.str "again", x.d]) := by rw [Ex.d] at h1; exact h1
    obtain ⟨j, rfl⟩ : ∃ j, k = j + 1 := ⟨k - 1, by omega⟩
    have spos : 0 < sz m num x := by
      rw [sz] at pos0
      exact Nat.pos_of_ne_zero fun z => by rw [z] at pos0; simp at pos0
    have sle : sz m num x ≤ sz m num (.again x) := by
      rw [sz]
      refine Nat.le_mul_of_pos_left _ (Nat.mul_pos (Nat.mul_pos (by omega) ?_) (by omega))
      exact Nat.lt_of_lt_of_le (by decide) (Nat.le_max_right _ _)
    refine wss_cons (ws_skip (evt_val (ev_call (kp_is_spelt T) (hr.mono (by omega)) (eva_cons (ev_v 1 h1) eva_nil) (.inr ⟨_, rfl, rfl⟩))) fun H1 e1 => ?_)
    refine wss_cons (ws_skip (EvT.is (evt_eqS (ev_ixTc 0 (d := .str "again") rfl (ev_v 1 (h1.mono e1))) ev_str) (by decide +kernel)) fun H2 e2 => ?_)
    have ee := e1.trans e2
    refine wss_cons (ws_set' hN (i := 6) (we_callB (ih j rfl) (hr.mono (by omega)) (eva_cons (ev_v 0 (h0.mono ee)) (eva_cons (ev_ixTc 1 (d := x.d) rfl (ev_v 1 (h1.mono ee))) (eva_cons (ev_v 2 (h2.mono ee)) eva_nil))) ⟨m, x, num, wm, wf, by omega, by omega, hnum, spos, by omega, rfl, rfl⟩ fun a H3 e3 hn hl => ?_))
    have e13 := ee.trans e3
    have hb : Is K H3 (.ref a) (bookD (bk m num x)) := is_strs hl
    have hlen := bk_len m num x
    have hEv : Ev (Cd P w K mg base ["manuals", "expression", "number", "parts", "part", "job", "body"] "book_from" s_book_from cdv A outer s H E) [some v0, some v1, some v2, none, none, none, some (.ref a)] H3 (.Name "body" ⟨0, 0, 0, 0⟩) (bookD (bk m num x)) → True := fun _ => trivial
    have dv : ((sz m num (.again x) : Nat) : Int) / ((bk m num x).map D.str).length = ((sz m num (.again x) / (bk m num x).length : Nat) : Int) := by rw [List.length_map]; rfl
    have hq : (bk m num x).length * (sz m num (.again x) / (bk m num x).length) ≤ 100000 := Nat.le_trans (Nat.mul_div_le _ _) (by omega)
    have c400 : sz m num (.again x) / (bk m num x).length ≤ 400 := Nat.le_trans (Nat.div_le_self _ _) s400
    rw [bk] at kk
    obtain ⟨cnt, hcnt⟩ : ∃ c, c = sz m num (.again x) / (bk m num x).length := ⟨_, rfl⟩
    rw [← hcnt] at dv hq c400 kk
    refine wss_one (ws_ret' (WE.of (pe_op op_rep WE.pe WE.pe) ?_))
    refine (ev_v 6 hb) _ (Ext.refl _) _ fun y H4 e4 hy => ?_
    have e14 := e13.trans e4
    refine (Ev.is (ev_fdiv (by rw [List.length_map, hlen]; omega) (by rw [List.length_map, hlen]; omega) (ev_call (kp_size T (j + 1)) (hr.mono (by omega)) (eva_cons (ev_v 0 (h0.mono e14)) (eva_cons (ev_v 1 (h1'.mono e14)) (eva_cons (ev_v 2 (h2.mono e14)) eva_nil))) ⟨m, .again x, num, wm, by rw [Ex.wf]; exact wf, by rw [Ex.dep]; omega, by omega, hnum, rfl, rfl⟩) (ev_lenL T.f_len (ev_v 6 (hb.mono e4)))) (by rw [dv])) _ (Ext.refl _) _ fun z H5 e5 hz => ?_
    cases hz
    have hy5 := hy.mono e5
    cases hy5 with
    | @lst l vs _ hs ha =>
      have hv := isAll_strs ha
      subst hv
      refine ⟨l, (cnt : Int), _, rfl, rfl, hs, by omega, by omega, small (by rw [List.length_map]; simpa using hq), fun q hq' => ?_⟩
      refine kk q _ (e14.trans (e5.trans (Ext.new hq'))) ((e14.trans e5).back hq') ?_
      rw [upd_same]
      have e : (List.replicate ((cnt : Int).toNat) ((bk m num x).map V.str)).flatten = ((List.replicate cnt (bk m num x)).flatten).map V.str := by
        rw [List.map_flatten, List.map_replicate]; rfl
      rw [e]
theorem kp_bk (T : Top w K mg) : ∀ k, Kp P w K mg base "book_from" ["manuals", "expression", "number"] [] (k + 34) (spB K (Rbk k))
  | 0 => kp_bk_of T 0 fun j h => by cases h
  | k + 1 => kp_bk_of T (k + 1) fun j h => by cases h; exact kp_bk T k
/-! written_from, written, written_size -/
def Rwr : List D → D → Prop := fun ds d => ∃ (m : Mn) (e : Ex) (num : Nat), WfM m ∧ e.wf ∧ e.dep ≤ 12 ∧ num ≤ 100 ∧ sz m num e ≤ 400 ∧ ds = [.lst [.man m], e.d, .int (num : Int)] ∧ d = bookD (bk m num e)
abbrev N_written_from : List Str := ["manuals", "expression", "number", "size"]
theorem kp_written_from (T : Top w K mg) : Kp P w K mg base "written_from" ["manuals", "expression", "number"] [] 47 (spD K Rwr) := by
  have hN : N_written_from.Nodup := by decide +kernel
  refine kp_d (N := N_written_from) T 53 rfl ⟨rfl, rfl, rfl, hN, rfl, by decide +kernel, by decide +kernel⟩ (fun _ _ _ _ _ _ us hl => match us, hl with | [_, _, _], _ => rfl) (fun ds d ⟨m, e, num, _, _, _, _, _, h, _⟩ => by rw [h]; rfl) ?_
  rintro cdv A outer s H vs ds d Q E hr hv ⟨m, e, num, wm, wf, dk, hnum, s400, rfl, rfl⟩ k
  obtain ⟨v0, v1, v2, rfl, h0, h1, h2⟩ := isAll3 hv
  obtain ⟨tl, hL⟩ := T.c_longest
  refine wss_cons (ws_set hN (i := 3) (ev_call (kp_size T 12) (hr.mono (by decide)) (eva_cons (ev_v 0 h0) (eva_cons (ev_v 1 h1) (eva_cons (ev_v 2 h2) eva_nil))) ⟨m, e, num, wm, wf, dk, Nat.le_refl _, hnum, rfl, rfl⟩) fun v3 H1 e1 h3 => ?_)
  refine wss_cons (ws_skip (EvT.is (evt_gt (ev_v 3 h3) (ev_globI hL)) (decide_eq_false (by omega))) fun H2 e2 => ?_)
  have ee := e1.trans e2
  refine wss_one (ws_ret (ev_ifExp (c := decide (sz m num e = 0)) (EvT.is (evt_eqI (ev_v 3 (h3.mono e2)) ev_int) (by simp)) (fun c => ?_) (fun c => ?_)) fun v H3 e3 hv => k v H3 (ee.trans e3) hv)
  · have z : bk m num e = [] := List.length_eq_zero_iff.mp ((bk_len m num e).trans (of_decide_eq_true c))
    rw [z]
    exact ev_lst eva_nil (by show 0 ≤ 100000; decide)
  · have z : sz m num e ≠ 0 := of_decide_eq_false c
    intro H3 e3 Q q
    have e4 := ee.trans e3
    exact we_callB (kp_bk T 12) (hr.mono (by decide)) (eva_cons (ev_v 0 (h0.mono e4)) (eva_cons (ev_v 1 (h1.mono e4)) (eva_cons (ev_v 2 (h2.mono e4)) eva_nil))) ⟨m, e, num, wm, wf, dk, Nat.le_refl _, hnum, by omega, s400, rfl, rfl⟩ fun a H5 e5 hn hl => q _ H5 e5 (is_strs hl)
abbrev N_written : List Str := ["manuals", "expression", "number"]
theorem kp_written (T : Top w K mg) : Kp P w K mg base "written" ["manuals", "expression", "number"] [] 48 (spD K Rwr) := by
  have hN : N_written.Nodup := by decide +kernel
  refine kp_d (N := N_written) T 55 rfl ⟨rfl, rfl, rfl, hN, rfl, by decide +kernel, by decide +kernel⟩ (fun _ _ _ _ _ _ us hl => match us, hl with | [_, _, _], _ => rfl) (fun ds d ⟨m, e, num, _, _, _, _, _, h, _⟩ => by rw [h]; rfl) ?_
  rintro cdv A outer s H vs ds d Q E hr hv ⟨m, e, num, wm, wf, dk, hnum, s400, rfl, rfl⟩ k
  obtain ⟨v0, v1, v2, rfl, h0, h1, h2⟩ := isAll3 hv
  refine wss_cons (ws_expr (ev_call (kp_check_asked T) (hr.mono (by decide)) (eva_cons (ev_v 0 h0) (eva_cons (ev_v 1 h1) (eva_cons (ev_v 2 h2) eva_nil))) ⟨m, e, num, wf, dk, rfl, rfl⟩) fun H1 e1 => ?_)
  exact wss_one (ws_ret (ev_call (kp_written_from T) (hr.mono (by decide)) (eva_cons (ev_v 0 (h0.mono e1)) (eva_cons (ev_v 1 (h1.mono e1)) (eva_cons (ev_v 2 (h2.mono e1)) eva_nil))) ⟨m, e, num, wm, wf, dk, hnum, s400, rfl, rfl⟩) fun v H2 e2 hv => k v H2 (e1.trans e2) hv)
abbrev N_written_size : List Str := ["manuals", "expression", "number"]
theorem kp_written_size (T : Top w K mg) : Kp P w K mg base "written_size" ["manuals", "expression", "number"] [] 33 (spD K (Rsize 12)) := by
  have hN : N_written_size.Nodup := by decide +kernel
  refine kp_d (N := N_written_size) T 56 rfl ⟨rfl, rfl, rfl, hN, rfl, by decide +kernel, by decide +kernel⟩ (fun _ _ _ _ _ _ us hl => match us, hl with | [_, _, _], _ => rfl) (fun ds d ⟨m, e, num, _, _, _, _, _, h, _⟩ => by rw [h]; rfl) ?_
  rintro cdv A outer s H vs ds d Q E hr hv ⟨m, e, num, wm, wf, dk, k12, hnum, rfl, rfl⟩ k
  obtain ⟨v0, v1, v2, rfl, h0, h1, h2⟩ := isAll3 hv
  refine wss_cons (ws_expr (ev_call (kp_check_asked T) (hr.mono (by decide)) (eva_cons (ev_v 0 h0) (eva_cons (ev_v 1 h1) (eva_cons (ev_v 2 h2) eva_nil))) ⟨m, e, num, wf, dk, rfl, rfl⟩) fun H1 e1 => ?_)
  exact wss_one (ws_ret (ev_call (kp_size T 12) (hr.mono (by decide)) (eva_cons (ev_v 0 (h0.mono e1)) (eva_cons (ev_v 1 (h1.mono e1)) (eva_cons (ev_v 2 (h2.mono e1)) eva_nil))) ⟨m, e, num, wm, wf, dk, k12, hnum, rfl, rfl⟩) fun v H2 e2 hv => k v H2 (e1.trans e2) hv)
end
end Wb
/-! Dicts of texts as tables. -/
namespace Wb
open PySem PySem.Spec L2
/-- the table at a that a def builds up -/
structure TabD (B H : Hp) (a : Addr) (n : Nat) (F : Str → Option V) : Prop where
  ext : Ext B H
  new : B a = none
  tab : ∃ (kvs : List (Key × V)) (ks : List Str), H a = some (.dK kvs) ∧ (∀ r, valV kvs (Sum.inr r) = F r) ∧ kvs.map (·.1) = ks.map Sum.inr ∧ kvs.length ≤ n
theorem TabD.mono {B H H' : Hp} {a : Addr} {n : Nat} {F : Str → Option V} (t : TabD B H a n F) (e : Ext H H') : TabD B H' a n F := by
  obtain ⟨e0, n0, kvs, ks, h1, h2, h3, h4⟩ := t
  exact ⟨e0.trans e, n0, kvs, ks, e _ _ h1, h2, h3, h4⟩
theorem TabD.is {K : PySem.W.Frag} {B H : Hp} {a : Addr} {n : Nat} {F : Str → Option V} (t : TabD B H a n F) (hn : n ≤ 60) : Is K H (.ref a) (.dct F) := by
  obtain ⟨e0, n0, kvs, ks, h1, h2, h3, h4⟩ := t
  exact .dct h1 h2 h3 (Nat.le_trans h4 hn)
theorem TabD.le {B H : Hp} {a : Addr} {n m : Nat} {F : Str → Option V} (t : TabD B H a n F) (h : n ≤ m) : TabD B H a m F := by
  obtain ⟨e0, n0, kvs, ks, h1, h2, h3, h4⟩ := t
  exact ⟨e0, n0, kvs, ks, h1, h2, h3, Nat.le_trans h4 h⟩
theorem TabD.congr {B H : Hp} {a : Addr} {n : Nat} {F G : Str → Option V} (t : TabD B H a n F) (h : ∀ r, F r = G r) : TabD B H a n G := (funext h : F = G) ▸ t
theorem keys_put {kvs : List (Key × V)} {ks : List Str} {r : Str} {v : V} (h : kvs.map (·.1) = ks.map Sum.inr) : ∃ ks' : List Str, (putK kvs (Sum.inr r) v).map (·.1) = ks'.map Sum.inr := by
  unfold putK
  by_cases c : (kvs.any fun kv => decide (kv.1 = Sum.inr r)) = true
  · rw [if_pos c]
    refine ⟨ks, ?_⟩
    rw [← h, List.map_map]
    refine List.map_congr_left fun p _ => ?_
    show (if p.1 = Sum.inr r then (p.1, v) else p).1 = p.1
    by_cases e : p.1 = Sum.inr r
    · rw [if_pos e]
    · rw [if_neg e]
  · rw [if_neg c]
    exact ⟨ks ++ [r], by rw [List.map_append, List.map_append, h]; rfl⟩
theorem TabD.put {B H : Hp} {a : Addr} {n : Nat} {F : Str → Option V} (t : TabD B H a n F) {kvs : List (Key × V)} (h : H a = some (.dK kvs)) (r : Str) (v : V) : TabD B (upd H a (.dK (putK kvs (Sum.inr r) v))) a (n + 1) fun x => if x = r then some v else F x := by
  obtain ⟨e0, n0, kvs', ks, h1, h2, h3, h4⟩ := t
  rw [h] at h1; cases h1
  obtain ⟨ks', h5⟩ := keys_put (r := r) (v := v) h3
  refine ⟨e0.mut n0, n0, _, ks', upd_same, fun x => ?_, h5, Nat.le_trans (length_putK ..) (by omega)⟩
  rw [valV_put]
  by_cases e : x = r
  · subst e; rw [if_pos rfl, if_pos rfl]
  · rw [if_neg e, if_neg fun z => e (by cases z; rfl)]; exact h2 x
theorem TabD.start {B H : Hp} {a : Addr} (e : Ext B H) (h : H a = none) : TabD B (upd H a (.dK [])) a 0 fun _ => none :=
  ⟨e.trans (Ext.new h), e.back h, [], [], upd_same, fun _ => rfl, rfl, Nat.le_refl _⟩
section
variable {X : Cx} {e o i f kx vx iter tg : Expr} {σ : L2.St} {H B : Hp} {pos pos' p apos cpos : Pos} {F : Str → Option V} {r : Str} {d : D} {Dn : Ends}
theorem ev_dgetF {v : V} (hu : X.A.units + 64 < cLine) (ho : Ev X σ H o (.dct F)) (hi : Ev X σ H i (.str r)) (hF : F r = some v) (hd : ∀ H, Is X.K H v d) (hs : NoSl i := by exact fun _ _ => rfl) : Ev X σ H (.Subscript o i pos) d := fun H1 e1 Q q =>
  WE.of (pe_dget (by omega) WE.pe WE.pe hs) (ho H1 e1 _ fun x H2 e2 hx => hi H2 (e1.trans e2) _ fun y H3 e3 hy => by
    cases hy
    cases hx with
    | dct h a b c =>
      refine ⟨_, v, rfl, ?_, q v H3 (e2.trans e3) (hd H3)⟩
      have g := DGet.k (k := Sum.inr r) (e3 _ _ h)
      rw [a, hF] at g
      exact g)
theorem ev_dinF (hu : X.A.units + 64 < cLine) (hi : Ev X σ H i (.str r)) (ho : Ev X σ H o (.dct F)) (hm : behindInMarks .In o = false := by rfl) : Ev X σ H (.Compare i [.In] [o] pos) (.bl (F r).isSome) := fun H1 e1 Q q =>
  WE.of (pe_cmp (pc_din (by omega) WE.pe WE.pe) hm) (hi H1 e1 _ fun y H2 e2 hy => ho H2 (e1.trans e2) _ fun x H3 e3 hx => by
    cases hy
    cases hx with
    | dct h a b c =>
      have g := DGet.k (k := Sum.inr r) h
      rw [a] at g
      exact ⟨_, _, rfl, g, q _ H3 (e2.trans e3) (.bl _)⟩)
theorem evt_dinF (hu : X.A.units + 64 < cLine) (hi : Ev X σ H i (.str r)) (ho : Ev X σ H o (.dct F)) (hm : behindInMarks .In o = false := by rfl) : EvT X σ H (.Compare i [.In] [o] pos) (F r).isSome := fun H1 e1 Q q =>
  WT.of (pt_cmp (pc_din (by omega) WE.pe WE.pe) hm) (hi H1 e1 _ fun y H2 e2 hy => ho H2 (e1.trans e2) _ fun x H3 e3 hx => by
    cases hy
    cases hx with
    | dct h a b c =>
      have g := DGet.k (k := Sum.inr r) h
      rw [a] at g
      exact ⟨_, _, rfl, g, _, rfl, q H3 (e2.trans e3)⟩)
theorem evt_dniF (hu : X.A.units + 64 < cLine) (hi : Ev X σ H i (.str r)) (ho : Ev X σ H o (.dct F)) (hm : behindInMarks .NotIn o = false := by rfl) : EvT X σ H (.Compare i [.NotIn] [o] pos) (!(F r).isSome) := fun H1 e1 Q q =>
  WT.of (pt_cmp (pc_dnotin (by omega) WE.pe WE.pe) hm) (hi H1 e1 _ fun y H2 e2 hy => ho H2 (e1.trans e2) _ fun x H3 e3 hx => by
    cases hy
    cases hx with
    | dct h a b c =>
      have g := DGet.k (k := Sum.inr r) h
      rw [a] at g
      exact ⟨_, _, rfl, g, _, rfl, q H3 (e2.trans e3)⟩)
/-- o.get(i, f) -/
theorem ev_dget2F {d0 : D} {w : V} (hu : X.A.units + 64 < cLine) (ho : Ev X σ H o (.dct F)) (hi : Ev X σ H i (.str r)) (hf : Ev X σ H f d0) (hw : ∀ H v, Is X.K H v d0 → v = w) (hd : ∀ H, Is X.K H ((F r).getD w) d) (m : M2 X o "get" apos i f cpos := by exact ⟨rfl, rfl, rfl, rfl⟩) : Ev X σ H (.Call (.Attribute o "get" apos) [i, f] [] cpos) d := fun H1 e1 Q q =>
  WE.of (pe_dget2 (by omega) WE.pe WE.pe WE.pe m) (ho H1 e1 _ fun x H2 e2 hx => by
    cases hx with
    | dct h a b c =>
      refine ⟨_, rfl, .inl ⟨_, .inl h⟩, hi H2 (e1.trans e2) _ fun y H3 e3 hy => hf H3 (e1.trans (e2.trans e3)) _ fun z H4 e4 hz => ?_⟩
      cases hy
      have g := DGet.k (k := Sum.inr r) ((e3.trans e4) _ _ h)
      rw [a] at g
      refine ⟨_, g, ?_⟩
      rw [hw _ _ hz]
      exact q _ H4 (e2.trans (e3.trans e4)) (hd H4))
/-- o[i] = e, o the table at a -/
theorem ws_dput {a : Addr} {n : Nat} {w : V} (hu : X.A.units + 64 < cLine) (t : TabD B H a n F) (hn : n ≤ 1000) (he : Ev X σ H e d) (hw : ∀ H v, Is X.K H v d → v = w) (ho : Ev X σ H o (.obj a)) (hi : Ev X σ H i (.str r)) (k : ∀ H', TabD B H' a (n + 1) (fun x => if x = r then some w else F x) → Dn.nx σ H')
    (hs : swapsWith e (some (.Subscript o i pos')) pos.line X.env = pure false := by rfl) : WS X (.Assign [.Subscript o i pos'] e pos) Dn σ H :=
  WS.of (ps_dput (by omega) WE.pe WE.pe WE.pe hs) (he H (Ext.refl _) _ fun v H1 e1 hv => ho H1 e1 _ fun x H2 e2 hx => hi H2 (e1.trans e2) _ fun y H3 e3 hy => by
    have hvw := hw _ _ hv
    subst hvw
    cases hx
    cases hy
    have t3 := t.mono (e1.trans (e2.trans e3))
    obtain ⟨_, _, kvs, ks, h1, h2, h3, h4⟩ := t3
    exact ⟨a, _, rfl, DPut.k (k := Sum.inr r) h1 (Nat.lt_of_le_of_lt (Nat.le_trans h4 hn) (by decide)), k _ (t.mono (e1.trans (e2.trans e3)) |>.put h1 r v)⟩)
/-- {k: v for x in a list of texts that Pl tells} -/
theorem ev_dcP {scope : Scope} {own : List (Str × Nat)} {g : TG} (Pl : List Str → Prop) (F' : Str → Option V) (G : Str → V) (dd : Str → D) (hc : X.calm = true) (hN : X.N.Nodup) (ok : BlkOk X.N X.env.scope scope own) (hi : ∀ H1, Ext H H1 → ∀ R : It → Hp → Prop, (∀ (l : List Str) J H2, Pl l → l.length ≤ 60 → Ext H1 H2 → Yl X.K J H2 (l.map D.str) → R J H2) → WI X tg iter σ H1 R) (hF' : ∀ l, Pl l → ∀ r, (if r ∈ l then some (G r) else none) = F' r)
    (hg : ∀ s H C cl fp, PG (Bk X scope s H C cl fp) tg g) (hm : GMono g)
    (hs : ∀ l, Pl l → ∀ x ∈ l, ∀ v H1, Ext H H1 → Is X.K H1 v (.str x) → ∀ Dl, H Dl = none → (∃ o, H1 Dl = some o) → g v (wipe σ (own.map (·.2))) H1 fun σ2 H2 => H2 = H1 ∧ wipe σ2 (own.map (·.2)) = wipe σ (own.map (·.2)) ∧
      (∀ s H' C cl fp, Ev (Bk X scope s H' C cl fp) σ2 (wo H1 Dl) kx (.str x)) ∧ (∀ s H' C cl fp, Ev (Bk X scope s H' C cl fp) σ2 (wo H1 Dl) vx (dd x)))
    (hw : ∀ x H v, Is X.K H v (dd x) → v = G x) (hf : ∀ x, foldedSetIterable iter X.env x = pure x := by intro _; rfl) :
    Ev X σ H (.DictComp kx vx [⟨tg, iter, [], 0⟩] scope pos) (.dct F') := fun H1 e1 Q k => by
  refine WE.of (pe_dc hc hN WI.pi ok hg (fun s H C cl fp => pts_nil) (tk := bkE X scope kx) (fun s H C cl fp => ⟨fun pins s' σ H Q I h => (h _ _ _ _ _).run pins s' I⟩) (tv := bkE X scope vx) (fun s H C cl fp => ⟨fun pins s' σ H Q I h => (h _ _ _ _ _).run pins s' I⟩) hf) ?_
  refine hi H1 e1 _ fun l J Hb pl hz e2 y Dl hD => ?_
  have hD0 : H Dl = none := (e1.trans e2).back hD
  refine ⟨fun i m H' => m = l.length - i ∧ i ≤ l.length ∧ TabD Hb H' Dl i (fun r => if r ∈ l.take i then some (G r) else none), ⟨l.length, by simp, Nat.zero_le _, by simpa using TabD.start (Ext.refl Hb) hD⟩, ?_⟩
  rintro i m H3 ⟨rfl, hle, t⟩
  by_cases hlt : i < l.length
  · have hlt' : i < (l.map D.str).length := by simpa using hlt
    refine .inr ⟨y.go i H3 t.ext hlt', fun H' => i + 1 ≤ l.length ∧ TabD Hb H' Dl (i + 1) (fun r => if r ∈ l.take (i + 1) then some (G r) else none), fun H' ⟨q1, q2⟩ => ⟨l.length - (i + 1), by omega, rfl, q1, q2⟩, fun v H4 yy => ?_⟩
    have hd : l[i]? = some l[i] := List.getElem?_eq_getElem hlt
    have hd' : (l.map D.str)[i]? = some (.str l[i]) := by rw [List.getElem?_map, hd]; rfl
    obtain ⟨e3, hv⟩ := y.yld i H3 v H4 _ t.ext hd' yy
    have t4 := t.mono e3
    obtain ⟨_, _, kvs, ks, h1, h2, h3, h4⟩ := id t4
    have htk : l.take (i + 1) = l.take i ++ [l[i]] := List.take_succ_eq_append_getElem hlt
    refine hm v _ H4 _ _ (fun σ2 H2 ⟨q1, q2, q3, q4⟩ => ?_) (hs l pl l[i] (List.getElem_mem hlt) v H4 ((e1.trans e2).trans t4.ext) hv Dl hD0 ⟨_, h1⟩)
    subst q1
    refine ⟨q2, ?_⟩
    simp only [tYes, ↓reduceIte]
    intro s H' C cl fp
    refine q3 s H' C cl fp _ Ext.ofWo _ fun yk H5 e5 hk => ?_
    intro s' H'' C' cl' fp'
    refine q4 s' H'' C' cl' fp' _ (Ext.ofWo.trans e5) _ fun z H6 e6 hz' => ?_
    cases hk
    have t6 := t4.mono (e5.trans e6)
    have h16 : H6 Dl = some (.dK kvs) := (e5.trans e6) _ _ h1
    refine ⟨kvs, Sum.inr l[i], rfl, h16, Nat.lt_of_le_of_lt h4 (Nat.lt_of_le_of_lt (by omega : i ≤ 60) (by decide)), hlt, ?_⟩
    have ez := hw _ _ _ hz'
    refine (t6.put h16 l[i] z).congr fun x => ?_
    rw [htk]
    by_cases c : x = l[i]
    · rw [if_pos c, if_pos (by rw [c]; exact List.mem_append_right _ (.head _)), c, ez]
    · rw [if_neg c]
      by_cases c2 : x ∈ l.take i
      · rw [if_pos c2, if_pos (List.mem_append_left _ c2)]
      · rw [if_neg c2, if_neg fun q => by
          rcases List.mem_append.mp q with q | q
          · exact c2 q
          · exact c (List.mem_singleton.mp q)]
  · have e : i = l.length := by omega
    subst e
    have st := y.stop H3 t.ext
    rw [List.length_map] at st
    rw [List.take_length] at t
    exact .inl ⟨st, k _ H3 (e2.trans t.ext) ((t.congr (hF' l pl)).is hz)⟩
/-- {k: v for x in list of texts} -/
theorem ev_dcF {scope : Scope} {own : List (Str × Nat)} {g : TG} {l : List Str} (G : Str → V) (dd : Str → D) (hc : X.calm = true) (hN : X.N.Nodup) (ok : BlkOk X.N X.env.scope scope own) (hi : EvI X σ H tg iter (l.map D.str)) (hz : l.length ≤ 60)
    (hg : ∀ s H C cl fp, PG (Bk X scope s H C cl fp) tg g) (hm : GMono g)
    (hs : ∀ x ∈ l, ∀ v H1, Ext H H1 → Is X.K H1 v (.str x) → ∀ Dl, H Dl = none → (∃ o, H1 Dl = some o) → g v (wipe σ (own.map (·.2))) H1 fun σ2 H2 => H2 = H1 ∧ wipe σ2 (own.map (·.2)) = wipe σ (own.map (·.2)) ∧
      (∀ s H' C cl fp, Ev (Bk X scope s H' C cl fp) σ2 (wo H1 Dl) kx (.str x)) ∧ (∀ s H' C cl fp, Ev (Bk X scope s H' C cl fp) σ2 (wo H1 Dl) vx (dd x)))
    (hw : ∀ x H v, Is X.K H v (dd x) → v = G x) (hf : ∀ x, foldedSetIterable iter X.env x = pure x := by intro _; rfl) :
    Ev X σ H (.DictComp kx vx [⟨tg, iter, [], 0⟩] scope pos) (.dct fun r => if r ∈ l then some (G r) else none) :=
  ev_dcP (fun l' => l' = l) _ G dd hc hN ok (fun H1 e1 R q => hi H1 e1 R fun J H2 e2 y => q l J H2 rfl hz e2 y) (fun l' e r => by rw [e]) hg hm (fun l' e x hx => hs x (e ▸ hx)) hw hf
/-- sorted(d): its keys -/
theorem ws_sortedKeys {a : Expr} {Q : VK} (hm : X.mg "sorted" = none) (h : Ev X σ H a (.dct F)) (k : ∀ v H1 (l : List Str), Ext H H1 → l.length ≤ 60 → (∀ r, r ∈ l ↔ (F r).isSome = true) → Is X.K H1 v (.lst (l.map D.str)) → Q v H1) (hc : X.calm = true := by rfl) (hg : Gl X "sorted" := by rfl) (hs : noStar a = true := by rfl) : WE X (.Call (.Name "sorted" p) [a] [] pos) σ H Q :=
  WE.of (pe_callB (call_sortedD hc) hg hm PyProof.Rows.boot_sorted WA.pa (by decide) (by decide) (star_cons hs) rfl) (eva_cons h eva_nil hs H (Ext.refl _) _ fun vs H1 e1 hv => by
    obtain ⟨v, rfl, hx⟩ := isAll1 hv
    cases hx with
    | @dct q kvs _ ks hq ha hb hc =>
      have lk : ks.length = kvs.length := by have := congrArg List.length hb; simpa using this.symm
      refine ⟨q, kvs, ks, rfl, .inl hq, hb, by omega, fun ys t hp _ ht => k _ _ ys (e1.trans (Ext.new ht)) (by rw [hp.length_eq]; omega) (fun r => ?_) (.lst upd_same (isAll_ofStrs ys))⟩
      rw [hp.mem_iff, ← ha r, ← valV_any, List.any_eq_true]
      constructor
      · intro hr
        have : (Sum.inr r : Key) ∈ kvs.map (·.1) := by rw [hb]; exact List.mem_map.mpr ⟨r, hr, rfl⟩
        obtain ⟨p, hp, e⟩ := List.mem_map.mp this
        exact ⟨p, hp, decide_eq_true e⟩
      · rintro ⟨p, hp, e⟩
        have : (Sum.inr r : Key) ∈ kvs.map (·.1) := List.mem_map.mpr ⟨p, hp, of_decide_eq_true e⟩
        rw [hb] at this
        obtain ⟨r', hr', e'⟩ := List.mem_map.mp this
        cases e'
        exact hr')
theorem wi_sortedKeys {a : Expr} {H1 : Hp} {R : It → Hp → Prop} (hm : X.mg "sorted" = none) (h : Ev X σ H a (.dct F)) (e1 : Ext H H1) (q : ∀ (l : List Str) J H2, (∀ r, r ∈ l ↔ (F r).isSome = true) → l.length ≤ 60 → Ext H1 H2 → Yl X.K J H2 (l.map D.str) → R J H2) (hc : X.calm = true := by rfl) (hg : Gl X "sorted" := by rfl) (hs : noStar a = true := by rfl) : WI X tg (.Call (.Name "sorted" p) [a] [] pos) σ H1 R :=
  WI.of (pi_list WE.pe) (ws_sortedKeys hm (h.mono e1) (fun v H2 l e2 hl hm hv => by
    have y := hv
    cases hv with
    | @lst t vs _ ht ha => exact ⟨t, rfl, ⟨vs, .of ht⟩, q l _ H2 hm hl e2 (yl_list y)⟩) hc hg hs)
end
end Wb
/-! The defs over purses. -/
namespace Wb
open PySem PySem.Spec L2
/-- what a manner leaves of c coins with the purse p -/
def clO : Eff → Int → Int → Option Int
  | .coins a, c, _ => if (a : Int) > c then none else some (c - a)
  | .fill a b, c, p => if (a : Int) > c then none else if (b : Int) ≤ p then some (p - b) else none
abbrev Row := Str → Option Int
def rowVal (F : Row) : Str → Option V := fun r => (F r).map V.int
abbrev rowDc (F : Row) : D := .dct (rowVal F)
/-- one manner into the row behind -/
def restStep (row : Row) (job : Str) (p : Int) (F : Row) (x : Mnr) : Row :=
  if x.job = job then
    match row x.room with
    | none => F
    | some c => match clO x.eff c p with
      | none => F
      | some left => if left > (F x.other).getD (-1) then fun r => if r = x.other then some left else F r else F
  else F
def restJob (rows : List Mnr) (row : Row) (job : Str) (p : Int) : Row := rows.foldl (restStep row job p) fun _ => none
def row0 (m : Mn) (p : Int) : Row := fun r => if r ∈ m.firsts then some p else none
def rowAt (m : Mn) (p : Int) (b : List Str) : Row := b.foldl (fun F j => restJob m.rows F j p) (row0 m p)
def servedB (m : Mn) (b : List Str) (p : Int) : Bool := m.lasts.any fun r => (rowAt m p b r).isSome
def optD : Option Int → D
  | none => .non
  | some i => .int i
theorem rowAt_snoc {m : Mn} {p : Int} {b : List Str} {j : Str} : rowAt m p (b ++ [j]) = restJob m.rows (rowAt m p b) j p := by unfold rowAt; rw [List.foldl_append]; rfl
section
variable {X : Cx} {a b : Expr} {σ : L2.St} {H : Hp} {pos : Pos} {i : Int}
theorem ev_neg (h : Ev X σ H a (.int i)) : Ev X σ H (.UnaryOp .USub a pos) (.int (-i)) := fun H1 e1 Q q => WE.of (pe_un un_neg WE.pe) (h H1 e1 _ fun v H2 e2 hv => by cases hv; exact ⟨i, rfl, q _ H2 e2 (.int _)⟩)
theorem ev_ixLast {ds : List D} {d : D} (h : Ev X σ H a (.lst (ds ++ [d]))) (h2 : Ev X σ H b (.int (-1))) (hs : PlainIx b := by exact fun _ _ => rfl) : Ev X σ H (.Subscript a b pos) d := ev_ix ix_list r2_ixLast h h2 hs
end
section
variable {P : Program} {w : World} {K : PySem.W.Frag} {mg : Str → Option Value} {base : Heap}
/-! coins_left -/
def Rcl : List D → D → Prop := fun ds d => ∃ (e : Eff) (c p : Int), ds = [e.d, .int c, .int p] ∧ d = optD (clO e c p)
abbrev N_coins_left : List Str := ["effect", "coins", "purse"]
theorem kp_coins_left (T : Top w K mg) : Kp P w K mg base "coins_left" ["effect", "coins", "purse"] [] 1 (spD K Rcl) := by
  have hN : N_coins_left.Nodup := by decide +kernel
  refine kp_d (N := N_coins_left) T 13 rfl ⟨rfl, rfl, rfl, hN, rfl, by decide +kernel, by decide +kernel⟩ (fun _ _ _ _ _ _ us hl => match us, hl with | [_, _, _], _ => rfl) (fun ds d ⟨e, c, p, h, _⟩ => by rw [h]; rfl) ?_
  rintro cdv A outer s H vs ds d Q E hr hv ⟨e, c, p, rfl, rfl⟩ k
  obtain ⟨v0, v1, v2, rfl, h0, h1, h2⟩ := isAll3 hv
  cases e with
  | coins a =>
    have h0 : Is K H v0 (.tup [.str "coins", .int a]) := h0
    refine wss_cons (ws_if (c := decide (c < (a : Int))) (EvT.is (evt_gt (ev_ixTc 1 (d := .int a) rfl (ev_v 0 h0)) (ev_v 1 h1)) rfl) (fun q H1 e1 => ?_) (fun q H1 e1 => ?_))
    · exact wss_one (ws_ret (Ev.is ev_non (by rw [clO, if_pos (of_decide_eq_true q)]; rfl)) fun v H2 e2 hv => k v H2 (e1.trans e2) hv)
    · refine wss_nil (wss_cons (ws_if (c := true) (EvT.is (evt_eqS (ev_ixTc 0 (d := .str "coins") rfl (ev_v 0 (h0.mono e1))) ev_str) (decide_eq_true rfl)) (fun _ H2 e2 => ?_) fun z => by cases z))
      exact wss_one (ws_ret (Ev.is (ev_sub (ev_v 1 (h1.mono (e1.trans e2))) (ev_ixTc 1 (d := .int a) rfl (ev_v 0 (h0.mono (e1.trans e2))))) (by rw [clO, if_neg (of_decide_eq_false q)]; rfl)) fun v H3 e3 hv => k v H3 (e1.trans (e2.trans e3)) hv)
  | fill a b =>
    have h0 : Is K H v0 (.tup [.str "fill", .int a, .int b]) := h0
    refine wss_cons (ws_if (c := decide (c < (a : Int))) (EvT.is (evt_gt (ev_ixTc 1 (d := .int a) rfl (ev_v 0 h0)) (ev_v 1 h1)) rfl) (fun q H1 e1 => ?_) (fun q H1 e1 => ?_))
    · exact wss_one (ws_ret (Ev.is ev_non (by rw [clO, if_pos (of_decide_eq_true q)]; rfl)) fun v H2 e2 hv => k v H2 (e1.trans e2) hv)
    · refine wss_nil (wss_cons (ws_skip (EvT.is (evt_eqS (ev_ixTc 0 (d := .str "fill") rfl (ev_v 0 (h0.mono e1))) ev_str) (by decide +kernel)) fun H2 e2 => ?_))
      have h0 := h0.mono (e1.trans e2)
      have h2 := h2.mono (e1.trans e2)
      refine wss_one (ws_ret (ev_ifExp (c := decide ((b : Int) ≤ p)) (EvT.is (evt_le (ev_ixTc 2 (d := .int b) rfl (ev_v 0 h0)) (ev_v 2 h2)) rfl) (fun z => Ev.is (ev_sub (ev_v 2 h2) (ev_ixTc 2 (d := .int b) rfl (ev_v 0 h0))) ?_) (fun z => Ev.is ev_non ?_)) fun v H3 e3 hv => k v H3 (e1.trans (e2.trans e3)) hv)
      · rw [clO, if_neg (of_decide_eq_false q), if_pos (of_decide_eq_true z)]; rfl
      · rw [clO, if_neg (of_decide_eq_false q), if_neg (of_decide_eq_false z)]; rfl
/-! rests_behind_job -/
def Rrest : List D → D → Prop := fun ds d => ∃ (rows : List Mnr) (row : Row) (job : Str) (p : Int), rows.length ≤ 50 ∧ ds = [.lst (rows.map Mnr.d), rowDc row, .str job, .int p] ∧ d = rowDc (restJob rows row job p)
abbrev N_rests_behind_job : List Str := ["manners", "row", "job", "purse", "found", "room", "word", "other", "effect", "left"]
theorem kp_rests_behind_job (T : Top w K mg) : Kp P w K mg base "rests_behind_job" ["manners", "row", "job", "purse"] [] 2 (spD K Rrest) := by
  have hN : N_rests_behind_job.Nodup := by decide +kernel
  refine kp_d (N := N_rests_behind_job) T 14 rfl ⟨rfl, rfl, rfl, hN, rfl, by decide +kernel, by decide +kernel⟩ (fun _ _ _ _ _ _ us hl => match us, hl with | [_, _, _, _], _ => rfl) (fun ds d ⟨_, _, _, _, _, h, _⟩ => by rw [h]; rfl) ?_
  rintro cdv A outer s H vs ds d Q E hr hv ⟨rows, row, job, p, few, rfl, rfl⟩ k
  obtain ⟨v0, v1, v2, v3, rfl, h0, h1, h2, h3⟩ := isAll4 hv
  refine wss_cons (ws_set' hN (i := 4) (WE.of pe_dnewK fun a ha => ?_))
  have st := TabD.start (Ext.refl H) ha
  refine wss_cons (ws_forS PassesOwn.never rfl (B := H) (evs_list (evb_v 0 h0) st.ext) (pg4 5 6 7 8 rfl hN) (fun i σ' H' => (∃ x5 x6 x7 x8 x9, σ' = [some v0, some v1, some v2, some v3, some (.ref a), x5, x6, x7, x8, x9]) ∧ TabD H H' a i (rowVal ((rows.take i).foldl (restStep row job p) fun _ => none))) (fun i σ' H' h => h.2.ext) (fun H1 e1 => ⟨⟨_, _, _, _, _, rfl⟩, (st.mono e1).congr fun _ => rfl⟩) ?_ ?_)
  · rintro i d σ' H' v hd ⟨⟨x5, x6, x7, x8, x9, rfl⟩, tm⟩ hv
    obtain ⟨x, hx, hxm, rfl⟩ := mnr_mem hd
    refine gTup4B hv tm.ext fun w5 w6 w7 w8 i5 i6 i7 i8 => ?_
    have hil : i < rows.length := (List.getElem?_eq_some_iff.mp hx).1
    have snoc : (rows.take (i + 1)).foldl (restStep row job p) (fun _ => none) = restStep row job p ((rows.take i).foldl (restStep row job p) fun _ => none) x := by rw [take_succ' hx, List.foldl_append]; rfl
    generalize hF : (rows.take i).foldl (restStep row job p) (fun _ => none) = F at tm snoc
    have stay : restStep row job p F x = F → ∀ {σ2 : L2.St} {H2 : Hp}, (∃ x5 x6 x7 x8 x9, σ2 = [some v0, some v1, some v2, some v3, some (.ref a), x5, x6, x7, x8, x9]) → Ext H' H2 → (∃ x5 x6 x7 x8 x9, σ2 = [some v0, some v1, some v2, some v3, some (.ref a), x5, x6, x7, x8, x9]) ∧ TabD H H2 a (i + 1) (rowVal ((rows.take (i + 1)).foldl (restStep row job p) fun _ => none)) := fun q σ2 H2 hs e => ⟨hs, by rw [snoc, q]; exact (tm.mono e).le (Nat.le_succ _)⟩
    have hu := hr.units
    refine wss_one (ws_if (c := decide (x.job = job) && (row x.room).isSome) (EvW.t (evw_and (EvT.is (evt_eqS (ev_v 6 (i6.mono tm.ext)) (ev_v 2 (h2.mono tm.ext))) rfl) fun _ => evw_and1 (EvT.is (evt_dinF hu (ev_v 5 (i5.mono tm.ext)) (ev_v 1 (h1.mono tm.ext))) (by unfold rowVal; rw [Option.isSome_map])))) (fun c H3 e3 => ?_) (fun c H3 e3 => ?_))
    · obtain ⟨c1, c2⟩ := Bool.and_eq_true_iff.mp c
      have c1 := of_decide_eq_true c1
      obtain ⟨cc, hcc⟩ := Option.isSome_iff_exists.mp c2
      have t3 := tm.mono e3
      refine wss_cons (ws_set hN (i := 9) (ev_call (kp_coins_left T) (hr.mono (by decide)) (eva_cons (ev_v 8 (i8.mono t3.ext)) (eva_cons (ev_dgetF (v := .int cc) hu (ev_v 1 (h1.mono t3.ext)) (ev_v 5 (i5.mono t3.ext)) (by unfold rowVal; rw [hcc]; rfl) (fun _ => .int cc)) (eva_cons (ev_v 3 (h3.mono t3.ext)) eva_nil))) ⟨x.eff, cc, p, rfl, rfl⟩) fun v9 H4 e4 h9 => ?_)
      have t4 := t3.mono e4
      cases hl : clO x.eff cc p with
      | none =>
        rw [hl] at h9
        have q : restStep row job p F x = F := by unfold restStep; rw [if_pos c1, hcc]; simp only [hl]
        exact wss_one (ws_skip (EvW.t (EvW.is (evw_and (c := false) (d := false) (EvT.is (evt_notNone (ev_v 9 h9) ev_non) rfl) fun z => by cases z) rfl)) fun H5 e5 => stay q ⟨_, _, _, _, _, rfl⟩ (e3.trans (e4.trans e5)))
      | some left =>
        rw [hl] at h9
        have h9 : Is K H4 v9 (.int left) := h9
        have q : restStep row job p F x = if left > (F x.other).getD (-1) then fun r => if r = x.other then some left else F r else F := by unfold restStep; rw [if_pos c1, hcc]; simp only [hl]
        have tis : Is K H4 (.ref a) (rowDc F) := t4.is (by omega)
        refine wss_one (ws_if (c := decide ((F x.other).getD (-1) < left)) (EvW.t (EvW.is (evw_and (c := true) (EvT.is (evt_notNone (ev_v 9 h9) ev_non) rfl) fun _ => evw_and1 (evt_gt (ev_v 9 h9) (ev_dget2F (w := .int (-1)) hu (ev_v 4 tis) (ev_v 7 (i7.mono t4.ext)) (ev_neg ev_int) (fun _ v hv => by cases hv; rfl) (fun H => by unfold rowVal; cases F x.other <;> exact .int _)))) (Bool.true_and _))) (fun z H5 e5 => ?_) (fun z H5 e5 => ?_))
        · have t5 := t4.mono e5
          refine wss_one (ws_dput hu t5 (by omega) (ev_v 9 (h9.mono e5)) (fun _ v hv => by cases hv; rfl) (ev_v 4 (.obj a)) (ev_v 7 (i7.mono t5.ext)) fun H6 t6 => ⟨⟨_, _, _, _, _, rfl⟩, ?_⟩)
          rw [snoc, q, if_pos (of_decide_eq_true z)]
          refine t6.congr fun r => ?_
          unfold rowVal
          show _ = Option.map V.int (if r = x.other then some left else F r)
          by_cases e : r = x.other
          · rw [if_pos e, if_pos e]; rfl
          · rw [if_neg e, if_neg e]
        · refine wss_nil (stay ?_ ⟨_, _, _, _, _, rfl⟩ (e3.trans (e4.trans e5)))
          rw [q, if_neg (of_decide_eq_false z)]
    · refine wss_nil (stay ?_ ⟨_, _, _, _, _, rfl⟩ e3)
      unfold restStep
      by_cases c1 : x.job = job
      · rw [if_pos c1]
        rw [decide_eq_true c1, Bool.true_and] at c
        cases hr : row x.room with
        | none => rfl
        | some cc => rw [hr] at c; cases c
      · rw [if_neg c1]
  · rintro σ' H' ⟨⟨x5, x6, x7, x8, x9, rfl⟩, tm⟩
    rw [List.length_map, List.take_length] at tm
    have tis : Is K H' (.ref a) (rowDc (restJob rows row job p)) := tm.is (by omega)
    refine wss_one (ws_ret ?_ fun v H2 e2 hv => k v H2 (tm.ext.trans e2) hv)
    generalize restJob rows row job p = F at tis
    refine ev_dcP (own := [("room", 5)]) (g := gName 5) (fun l => ∀ r, r ∈ l ↔ (rowVal F r).isSome = true) (rowVal F) (fun r => .int ((F r).getD 0)) (fun r => .int ((F r).getD 0)) rfl hN (blkOk_by (by kernel_rfl)) (fun H1 e1 R q => wi_sortedKeys T.f_sorted (ev_v 4 tis) e1 q) (fun l pl r => ?_) (fun _ _ _ _ _ => pgn 5 hN) gm_name (fun l pl r hr' v5 H1 e1 h5 Dl hD _ => ?_) (fun x H v hv => by cases hv; rfl)
    · have := pl r
      unfold rowVal at this ⊢
      cases hF : F r with
      | none => rw [if_neg fun z => by rw [this, hF] at z; cases z]; rfl
      | some i => rw [if_pos (by rw [this, hF]; rfl)]; rfl
    · have h5' : Is K (wo H1 Dl) v5 (.str r) := by cases h5; exact .str _
      obtain ⟨i, hi⟩ : ∃ i, F r = some i := by
        have := (pl r).mp hr'
        unfold rowVal at this
        rw [Option.isSome_map] at this
        exact Option.isSome_iff_exists.mp this
      exact ⟨rfl, rfl, fun _ _ _ _ _ => ev_v 5 h5', fun _ _ _ _ _ => ev_dgetF (v := .int ((F r).getD 0)) hr.units (ev_v 4 (tis.mono (e1.wo hD))) (ev_v 5 h5') (by unfold rowVal; rw [hi]; rfl) (fun _ => .int _)⟩
end
end Wb
/-! The defs over needs. -/
namespace Wb
open PySem PySem.Spec L2
section
variable {P : Program} {w : World} {K : PySem.W.Frag} {mg : Str → Option Value} {base : Heap}
/-! rest_rows -/
def Rrows : List D → D → Prop := fun ds d => ∃ (m : Mn) (b : List Str) (p : Int), WfM m ∧ b.length ≤ 1000 ∧ ds = [.man m, bookD b, .int p] ∧ d = .lst ((List.range (b.length + 1)).map fun i => rowDc (rowAt m p (b.take i)))
theorem nodup_le : ∀ {l r : List Str}, l.Nodup → (∀ x ∈ l, x ∈ r) → l.length ≤ r.length
  | [], _, _, _ => Nat.zero_le _
  | x :: l, r, h, hs => by
    obtain ⟨h1, h2⟩ := List.nodup_cons.mp h
    have h3 := nodup_le (r := r.erase x) h2 fun y hy => (List.mem_erase_of_ne (fun e => h1 (by rw [← e]; exact hy))).mpr (hs y (.tail _ hy))
    have h4 := List.length_erase_of_mem (hs x (.head _))
    have h5 : 0 < r.length := List.length_pos_of_mem (hs x (.head _))
    rw [List.length_cons]
    omega
theorem rows_snoc {m : Mn} {p : Int} {b : List Str} {i : Nat} : ((List.range (i + 1)).map fun j => rowDc (rowAt m p (b.take j))) = ((List.range i).map fun j => rowDc (rowAt m p (b.take j))) ++ [rowDc (rowAt m p (b.take i))] := by
  rw [List.range_succ, List.map_append]; rfl
theorem noLst_row (F : Row) : noLst (rowDc F) = true := by rw [noLst]
abbrev N_rest_rows : List Str := ["manual", "book", "purse", "manners", "rows", "room", "job"]
theorem kp_rest_rows (T : Top w K mg) : Kp P w K mg base "rest_rows" ["manual", "book", "purse"] [] 3 (spD K Rrows) := by
  have hN : N_rest_rows.Nodup := by decide +kernel
  refine kp_d (N := N_rest_rows) T 15 rfl ⟨rfl, rfl, rfl, hN, rfl, by decide +kernel, by decide +kernel⟩ (fun _ _ _ _ _ _ us hl => match us, hl with | [_, _, _], _ => rfl) (fun ds d ⟨_, _, _, _, _, h, _⟩ => by rw [h]; rfl) ?_
  rintro cdv A outer s H vs ds d Q E hr hv ⟨m, b, p, wm, hb, rfl, rfl⟩ k
  obtain ⟨v0, v1, v2, rfl, h0, h1, h2⟩ := isAll3 hv
  have fl : m.firsts.length ≤ 60 := by
    have h1 : m.firsts.length ≤ m.rooms.length := nodup_le wm.firstN wm.firstIn
    have := wm.small
    omega
  refine wss_cons (ws_set hN (ev_rows T (ev_v 0 h0)) (i := 3) fun v3 H1 e1 h3 => ?_)
  replace h0 := h0.mono e1
  replace h1 := h1.mono e1
  replace h2 := h2.mono e1
  have hdisp : Ev (Cd P w K mg base N_rest_rows "rest_rows" s_rest_rows cdv A outer s H E) [some v0, some v1, some v2, some v3, none, none, none] H1 (match defBody s_rest_rows with | [_, .Assign _ (.List [e] _) _, _, _] => e | _ => .Constant .none 0 ⟨0, 0, 0, 0⟩) (rowDc (rowAt m p (b.take 0))) := by
    have e : rowVal (rowAt m p (b.take 0)) = fun r => if r ∈ m.firsts then some (V.int p) else none := by
      funext r
      show Option.map V.int (if r ∈ m.firsts then some p else none) = _
      by_cases c : r ∈ m.firsts
      · rw [if_pos c, if_pos c]; rfl
      · rw [if_neg c, if_neg c]; rfl
    unfold rowDc
    rw [e]
    refine ev_dcF (own := [("room", 5)]) (g := gName 5) (l := m.firsts) (fun _ => .int p) (fun _ => .int p) rfl hN (blkOk_by (by kernel_rfl)) (EvIB.i (evi_list (evb_firsts T (evb_v 0 h0) (Ext.refl _)) (Ext.refl _)) (Ext.refl _)) fl (fun _ _ _ _ _ => pgn 5 hN) gm_name (fun r hr v5 H2 e2 h5 Dl hD _ => ?_) (fun x H v hv => by cases hv; rfl)
    have h5' : Is K (wo H2 Dl) v5 (.str r) := by cases h5; exact .str _
    exact ⟨rfl, rfl, fun _ _ _ _ _ => ev_v 5 h5', fun _ _ _ _ _ => ev_v 2 (h2.mono (e2.wo hD))⟩
  refine wss_cons (ws_set' hN (i := 4) (WE.of (pe_lst (pa_cons WE.pe pa_nil)) ?_))
  refine hdisp H1 (Ext.refl _) _ fun v H2 e2 hv2 => ⟨by show 1 ≤ sizeLine; decide, fun l hl => ?_⟩
  have eB := e2.trans (Ext.new (o := HO.lst [v]) hl)
  have i0 : IsAll K (upd H2 l (.lst [v])) [v] ((List.range (0 + 1)).map fun i => rowDc (rowAt m p (b.take i))) := .cons (hv2.mono (Ext.new hl)) .nil
  refine wss_cons (ws_forS PassesOwn.never rfl (B := H1) (evs_list (evb_v 1 h1) eB) (pgn 6 hN) (fun i σ' H' => (∃ x5 x6, σ' = [some v0, some v1, some v2, some v3, some (.ref l), x5, x6]) ∧ Ext H1 H' ∧ ∃ acc, H' l = some (.lst acc) ∧ IsAll K H' acc ((List.range (i + 1)).map fun i => rowDc (rowAt m p (b.take i)))) (fun i σ' H' h => h.2.1) (fun H3 e3 => ⟨⟨_, _, rfl⟩, eB.trans e3, [v], e3 _ _ upd_same, i0.mono e3⟩) ?_ ?_)
  · rintro i d σ' H' v6 hd ⟨⟨x5, x6, rfl⟩, e3, acc, ha, hacc⟩ hv
    obtain ⟨j, hj, rfl⟩ := map_get hd
    have hl0 : H1 l = none := e2.back hl
    have hil : i < b.length := (List.getElem?_eq_some_iff.mp hj).1
    have hal := hacc.length
    simp only [List.length_map, List.length_range] at hal
    have hcur : Is K H' (.ref l) (.lst (((List.range i).map fun i => rowDc (rowAt m p (b.take i))) ++ [rowDc (rowAt m p (b.take i))])) := by rw [← rows_snoc]; exact .lst ha hacc
    refine wss_one (ws_append (we_v 4 ⟨l, acc, rfl, ha, by omega, ?_⟩))
    refine (ev_call (kp_rests_behind_job T) (hr.mono (by decide)) (eva_cons (ev_v 3 (h3.mono e3)) (eva_cons (ev_ixLast (ev_v 4 hcur) (ev_neg ev_int)) (eva_cons (ev_v 6 (hv.mono e3)) (eva_cons (ev_v 2 (h2.mono e3)) eva_nil)))) ⟨m.rows, rowAt m p (b.take i), j, p, wm.few, rfl, rfl⟩) _ (Ext.refl _) _ fun v7 H4 e4 h7 => ?_
    have ha4 := e4 _ _ ha
    refine ⟨ha4, ⟨_, _, rfl⟩, (e3.trans e4).mut hl0, acc ++ [v7], upd_same, ?_⟩
    have kp : ExtN H4 (upd H4 l (.lst (acc ++ [v7]))) := (Ext.refl H4).n.upd ha4
    rw [rows_snoc (i := i + 1)]
    refine IsAll.append ((hacc.mono e4).keep kp (noLsts_all fun d hd => by obtain ⟨i, _, rfl⟩ := List.mem_map.mp hd; exact noLst_row _)) (.cons ?_ .nil)
    rw [take_succ' hj, rowAt_snoc]
    exact h7.keep kp (noLst_row _)
  · rintro σ' H' ⟨⟨x5, x6, rfl⟩, e3, acc, ha, hacc⟩
    rw [List.length_map] at hacc
    exact wss_one (ws_ret (ev_v 4 (.lst ha hacc)) fun v H4 e4 hv => k v H4 (e1.trans (e3.trans e4)) hv)
/-! ends_in, is_served -/
def Rends : List D → D → Prop := fun ds d => ∃ (m : Mn) (F : Row), WfM m ∧ ds = [.man m, rowDc F] ∧ d = .bl (m.lasts.any fun r => (F r).isSome)
abbrev N_ends_in : List Str := ["manual", "row", "room"]
theorem kp_ends_in (T : Top w K mg) : Kp P w K mg base "ends_in" ["manual", "row"] [] 1 (spD K Rends) := by
  have hN : N_ends_in.Nodup := by decide +kernel
  refine kp_d (N := N_ends_in) T 16 rfl ⟨rfl, rfl, rfl, hN, rfl, by decide +kernel, by decide +kernel⟩ (fun _ _ _ _ _ _ us hl => match us, hl with | [_, _], _ => rfl) (fun ds d ⟨_, _, _, h, _⟩ => by rw [h]; rfl) ?_
  rintro cdv A outer s H vs ds d Q E hr hv ⟨m, F, wm, rfl, rfl⟩ k
  obtain ⟨v0, v1, rfl, h0, h1⟩ := isAll2 hv
  have fl : m.lasts.length ≤ 100000 := by
    have h1 : m.lasts.length ≤ m.rooms.length := nodup_le wm.lastN wm.lastIn
    have := wm.small
    omega
  refine wss_one (ws_ret (Ev.is (ev_anyB (bs := m.lasts.map fun r => (F r).isSome) rfl T.f_any (Ev.is (ev_lcN (l := m.lasts) (E := D.str) (own := [("room", 2)]) (g := gName 2) (fun r => .bl (F r).isSome) rfl hN (blkOk_by (by kernel_rfl)) (EvIB.i (evi_list (evb_lasts T (evb_v 0 h0) (Ext.refl _)) (Ext.refl _)) (Ext.refl _)) fl (fun _ _ _ _ _ => pgn 2 hN) gm_name ?_ (fun _ _ => noLst_bl _)) (by rw [List.map_map]; rfl))) (by rw [List.any_map]; rfl)) k)
  intro r hr' v2 H1 e1 h2
  refine ⟨rfl, rfl, fun _ _ _ _ _ => Ev.is (ev_dinF hr.units (ev_v 2 h2) (ev_v 1 (h1.mono e1))) ?_⟩
  show D.bl (Option.map V.int (F r)).isSome = _
  rw [Option.isSome_map]
def Rserved : List D → D → Prop := fun ds d => ∃ (m : Mn) (b : List Str) (p : Int), WfM m ∧ b.length ≤ 1000 ∧ ds = [.man m, bookD b, .int p] ∧ d = .bl (servedB m b p)
abbrev N_is_served : List Str := ["manual", "book", "purse"]
theorem kp_is_served (T : Top w K mg) : Kp P w K mg base "is_served" ["manual", "book", "purse"] [] 4 (spD K Rserved) := by
  have hN : N_is_served.Nodup := by decide +kernel
  refine kp_d (N := N_is_served) T 17 rfl ⟨rfl, rfl, rfl, hN, rfl, by decide +kernel, by decide +kernel⟩ (fun _ _ _ _ _ _ us hl => match us, hl with | [_, _, _], _ => rfl) (fun ds d ⟨_, _, _, _, _, h, _⟩ => by rw [h]; rfl) ?_
  rintro cdv A outer s H vs ds d Q E hr hv ⟨m, b, p, wm, hb, rfl, rfl⟩ k
  obtain ⟨v0, v1, v2, rfl, h0, h1, h2⟩ := isAll3 hv
  refine wss_one (ws_ret (ev_call (kp_ends_in T) (hr.mono (by decide)) (eva_cons (ev_v 0 h0) (eva_cons (ev_ixLast (Ev.is (ev_call (kp_rest_rows T) (hr.mono (by decide)) (eva_cons (ev_v 0 h0) (eva_cons (ev_v 1 h1) (eva_cons (ev_v 2 h2) eva_nil))) ⟨m, b, p, wm, hb, rfl, rfl⟩) (by rw [rows_snoc])) (ev_neg ev_int)) eva_nil)) ⟨m, rowAt m p (b.take b.length), wm, rfl, by rw [List.take_length]; rfl⟩) k)
/-! need_from, need_of -/
/-- what a book needs -/
def Need (m : Mn) (b : List Str) : Option Int → Prop
  | none => servedB m b (3 * b.length) = false
  | some e => 0 ≤ e ∧ e ≤ 3 * b.length ∧ servedB m b e = true ∧ ∀ q, 0 ≤ q → q < e → servedB m b q = false
def Rneed : List D → D → Prop := fun ds d => ∃ (m : Mn) (b : List Str) (o : Option Int), WfM m ∧ WfB b ∧ (∀ p q : Int, 0 ≤ p → p ≤ q → servedB m b p = true → servedB m b q = true) ∧ Need m b o ∧ ds = [.man m, bookD b] ∧ d = optD o
abbrev N_need_from : List Str := ["manual", "book", "below", "enough", "middle"]
theorem kp_need_from (T : Top w K mg) : Kp P w K mg base "need_from" ["manual", "book"] [] 5 (spD K Rneed) := by
  have hN : N_need_from.Nodup := by decide +kernel
  refine kp_d (N := N_need_from) T 18 rfl ⟨rfl, rfl, rfl, hN, rfl, by decide +kernel, by decide +kernel⟩ (fun _ _ _ _ _ _ us hl => match us, hl with | [_, _], _ => rfl) (fun ds d ⟨_, _, _, _, _, _, _, h, _⟩ => by rw [h]; rfl) ?_
  rintro cdv A outer s H vs ds d Q E hr hv ⟨m, b, o, wm, wb, mono, nd, rfl, rfl⟩ k
  obtain ⟨v0, v1, rfl, h0, h1⟩ := isAll2 hv
  have hb := wb.small
  refine wss_cons (ws_par 2 3 hN (ev_neg ev_int) (Ev.is (ev_mul (i := 3) (by omega) ev_int (ev_lenL T.f_len (ev_v 1 h1))) (by rw [List.length_map])) fun v2 v3 H1 e1 h2 h3 => ?_)
  replace h0 := h0.mono e1
  replace h1 := h1.mono e1
  cases o with
  | none =>
    refine wss_cons (ws_if (c := true) (EvT.is (evt_not (evt_val (ev_call (kp_is_served T) (hr.mono (by decide)) (eva_cons (ev_v 0 h0) (eva_cons (ev_v 1 h1) (eva_cons (ev_v 3 h3) eva_nil))) ⟨m, b, _, wm, hb, rfl, rfl⟩))) (by rw [show servedB m b (3 * b.length) = false from nd]; rfl)) (fun _ H2 e2 => ?_) fun z => by cases z)
    exact wss_one (ws_ret ev_non fun v H3 e3 hv => k v H3 (e1.trans (e2.trans e3)) hv)
  | some e =>
    obtain ⟨n1, n2, n3, n4⟩ := nd
    have hs : servedB m b (3 * b.length) = true := mono e _ n1 n2 n3
    refine wss_cons (ws_skip (EvT.is (evt_not (evt_val (ev_call (kp_is_served T) (hr.mono (by decide)) (eva_cons (ev_v 0 h0) (eva_cons (ev_v 1 h1) (eva_cons (ev_v 3 h3) eva_nil))) ⟨m, b, _, wm, hb, rfl, rfl⟩))) (by rw [hs]; rfl)) fun H2 e2 => ?_)
    refine wss_cons (ws_while PassesOwn.never (fun mm σ' H' => ∃ (lo hi : Int) (w2 w3 : V) (w4 : Option V), -1 ≤ lo ∧ lo < hi ∧ hi ≤ 3 * b.length ∧ mm = (hi - lo).toNat ∧ servedB m b hi = true ∧ (lo = -1 ∨ servedB m b lo = false) ∧ σ' = [some v0, some v1, some w2, some w3, w4] ∧ Ext H1 H' ∧ Is K H' w2 (.int lo) ∧ Is K H' w3 (.int hi)) (3 * b.length + 1)
      ⟨-1, 3 * b.length, v2, v3, _, by omega, by omega, by omega, by omega, hs, .inl rfl, rfl, e2, h2.mono e2, h3.mono e2⟩ ?_)
    rintro mm σ' H' ⟨lo, hi, w2, w3, w4, a1, a2, a3, rfl, a4, a5, rfl, e3, i2, i3⟩
    refine ⟨_, evt_gt (ev_sub (ev_v 3 i3) (ev_v 2 i2)) ev_int, fun q H4 e4 => ?_, fun q H4 e4 => ?_⟩
    · have q := of_decide_eq_true q
      refine wss_cons (ws_set hN (ev_fdiv (by decide) (by decide) (ev_add (ev_v 2 (i2.mono e4)) (ev_v 3 (i3.mono e4))) ev_int) (i := 4) fun u4 H5 e5 i4 => ?_)
      have e35 := e3.trans (e4.trans e5)
      have m1 : lo < (lo + hi) / 2 := by omega
      have m2 : (lo + hi) / 2 < hi := by omega
      refine wss_one (ws_if (evt_val (ev_call (kp_is_served T) (hr.mono (by decide)) (eva_cons (ev_v 0 (h0.mono e35)) (eva_cons (ev_v 1 (h1.mono e35)) (eva_cons (ev_v 4 i4) eva_nil))) ⟨m, b, _, wm, hb, rfl, rfl⟩)) (fun c H6 e6 => ?_) (fun c H6 e6 => ?_))
      · refine wss_one (ws_set hN (ev_v 4 (i4.mono e6)) (i := 3) fun u3 H7 e7 j3 => ?_)
        exact ⟨((lo + hi) / 2 - lo).toNat, by omega, lo, (lo + hi) / 2, _, _, _, a1, m1, by omega, rfl, c, a5, rfl, e35.trans (e6.trans e7), i2.mono (e4.trans (e5.trans (e6.trans e7))), j3⟩
      · refine wss_one (ws_set hN (ev_v 4 (i4.mono e6)) (i := 2) fun u3 H7 e7 j3 => ?_)
        exact ⟨(hi - (lo + hi) / 2).toNat, by omega, (lo + hi) / 2, hi, _, _, _, by omega, m2, a3, rfl, a4, .inr c, rfl, e35.trans (e6.trans e7), j3, i3.mono (e4.trans (e5.trans (e6.trans e7)))⟩
    · have q := of_decide_eq_false q
      have eq : hi = lo + 1 := by omega
      have le1 : e ≤ hi := by
        by_cases c : e ≤ hi
        · exact c
        · have := n4 hi (by omega) (by omega)
          rw [a4] at this; cases this
      have le2 : hi ≤ e := by
        by_cases c : hi ≤ e
        · exact c
        · rcases a5 with a5 | a5
          · omega
          · have := mono e lo n1 (by omega) n3
            rw [a5] at this; cases this
      have : hi = e := by omega
      subst this
      exact wss_one (ws_ret (ev_v 3 (i3.mono e4)) fun v H5 e5 hv => k v H5 (e1.trans (e3.trans (e4.trans e5))) hv)
abbrev N_need_of : List Str := ["manual", "book"]
theorem kp_need_of (T : Top w K mg) : Kp P w K mg base "need_of" ["manual", "book"] [] 6 (spD K Rneed) := by
  have hN : N_need_of.Nodup := by decide +kernel
  refine kp_d (N := N_need_of) T 19 rfl ⟨rfl, rfl, rfl, hN, rfl, by decide +kernel, by decide +kernel⟩ (fun _ _ _ _ _ _ us hl => match us, hl with | [_, _], _ => rfl) (fun ds d ⟨_, _, _, _, _, _, _, h, _⟩ => by rw [h]; rfl) ?_
  rintro cdv A outer s H vs ds d Q E hr hv ⟨m, b, o, wm, wb, mono, nd, rfl, rfl⟩ k
  obtain ⟨v0, v1, rfl, h0, h1⟩ := isAll2 hv
  refine wss_cons (ws_expr (ev_call (kp_check_manual T) (hr.mono (by decide)) (eva_cons (ev_v 0 h0) eva_nil) ⟨m, rfl, rfl⟩) fun H1 e1 => ?_)
  refine wss_cons (ws_expr (ev_call (kp_check_book T) (hr.mono (by decide)) (eva_cons (ev_v 1 (h1.mono e1)) eva_nil) ⟨b, wb, rfl, rfl⟩) fun H2 e2 => ?_)
  have ee := e1.trans e2
  exact wss_one (ws_ret (ev_call (kp_need_from T) (hr.mono (by decide)) (eva_cons (ev_v 0 (h0.mono ee)) (eva_cons (ev_v 1 (h1.mono ee)) eva_nil)) ⟨m, b, o, wm, wb, mono, nd, rfl, rfl⟩) fun v H4 e4 hv => k v H4 (ee.trans e4) hv)
end
end Wb
/-! Slices; manners as plain data. -/
namespace Wb
open PySem PySem.Spec L2
section
variable {X : Cx} {e a b : Expr} {σ : L2.St} {H : Hp} {pos p2 : Pos} {xs : List D}
theorem cut_is {K : PySem.W.Frag} {H : Hp} {vs : List V} {ds : List D} (h : IsAll K H vs ds) (lo hi : Option Int) : IsAll K H (cutV vs lo hi) ((ds.drop (HT.sIx ds.length 0 lo)).take (HT.sIx ds.length ds.length hi - HT.sIx ds.length 0 lo)) := by
  unfold cutV
  rw [h.length]
  exact (h.drop _).take _
/-- t[lo:], a tuple's part that is not all of it -/
theorem ev_cutT {lo : Nat} (h : Ev X σ H a (.tup xs)) (hb : Ev X σ H b (.int lo)) (h0 : 0 < lo) (h1 : lo ≤ xs.length) : Ev X σ H (.Subscript a (.Slice (some b) none none p2) pos) (.tup (xs.drop lo)) := fun H1 e1 Q q =>
  WE.of (pe_slice sl_tup WE.pe (po_some WE.pe) po_none) (h H1 e1 _ fun v H2 e2 hv => hb H2 (e1.trans e2) _ fun u H3 e3 hu => by
    cases hu
    have hv3 := hv.mono e3
    cases hv3 with
    | @tup t vs _ hs ha =>
      have hl := ha.length
      have s1 : HT.sIx vs.length 0 (some ((lo : Nat) : Int)) = lo := by rw [HT.sIx_nat]; omega
      refine ⟨lo, rfl, t, vs, rfl, hs, fun z => by rw [s1] at z; omega, fun p hp => q _ _ (e2.trans (e3.trans (Ext.new hp))) (.tup (.of upd_same) ?_)⟩
      have c := (cut_is ha (some (lo : Int)) none).mono (Ext.new (o := .tup (cutV vs (some (lo : Int)) none)) hp)
      rw [← hl, s1, HT.sIx_none] at c
      rw [List.take_of_length_le (by rw [List.length_drop]; omega)] at c
      exact c)
/-- t[:hi] -/
theorem ev_cutH {hi : Nat} (h : Ev X σ H a (.tup xs)) (hb : Ev X σ H b (.int hi)) (h1 : hi < xs.length) : Ev X σ H (.Subscript a (.Slice none (some b) none p2) pos) (.tup (xs.take hi)) := fun H1 e1 Q q =>
  WE.of (pe_slice sl_tup WE.pe po_none (po_some WE.pe)) (h H1 e1 _ fun v H2 e2 hv => hb H2 (e1.trans e2) _ fun u H3 e3 hu => by
    cases hu
    have hv3 := hv.mono e3
    cases hv3 with
    | @tup t vs _ hs ha =>
      have hl := ha.length
      have s1 : HT.sIx vs.length vs.length (some ((hi : Nat) : Int)) = hi := by rw [HT.sIx_nat]; omega
      refine ⟨hi, rfl, t, vs, rfl, hs, fun z => by rw [s1] at z; omega, fun p hp => q _ _ (e2.trans (e3.trans (Ext.new hp))) (.tup (.of upd_same) ?_)⟩
      have c := (cut_is ha none (some (hi : Int))).mono (Ext.new (o := .tup (cutV vs none (some (hi : Int)))) hp)
      rw [← hl, s1, HT.sIx_none] at c
      exact c)
/-- xs[lo:], xs[:hi] of a list -/
theorem ev_cutLT {lo : Nat} (h : Ev X σ H a (.lst xs)) (hb : Ev X σ H b (.int lo)) (h1 : lo ≤ xs.length) : Ev X σ H (.Subscript a (.Slice (some b) none none p2) pos) (.lst (xs.drop lo)) := fun H1 e1 Q q =>
  WE.of (pe_slice sl_list WE.pe (po_some WE.pe) po_none) (h H1 e1 _ fun v H2 e2 hv => hb H2 (e1.trans e2) _ fun u H3 e3 hu => by
    cases hu
    have hv3 := hv.mono e3
    cases hv3 with
    | @lst t vs _ hs ha =>
      have hl := ha.length
      have s1 : HT.sIx vs.length 0 (some ((lo : Nat) : Int)) = lo := by rw [HT.sIx_nat]; omega
      refine ⟨lo, rfl, t, vs, rfl, .of hs, fun p hp => q _ _ (e2.trans (e3.trans (Ext.new hp))) (.lst upd_same ?_)⟩
      have c := (cut_is ha (some (lo : Int)) none).mono (Ext.new (o := .lst (cutV vs (some (lo : Int)) none)) hp)
      rw [← hl, s1, HT.sIx_none] at c
      rw [List.take_of_length_le (by rw [List.length_drop]; omega)] at c
      exact c)
theorem ev_cutLH {hi : Nat} (h : Ev X σ H a (.lst xs)) (hb : Ev X σ H b (.int hi)) (h1 : hi ≤ xs.length) : Ev X σ H (.Subscript a (.Slice none (some b) none p2) pos) (.lst (xs.take hi)) := fun H1 e1 Q q =>
  WE.of (pe_slice sl_list WE.pe po_none (po_some WE.pe)) (h H1 e1 _ fun v H2 e2 hv => hb H2 (e1.trans e2) _ fun u H3 e3 hu => by
    cases hu
    have hv3 := hv.mono e3
    cases hv3 with
    | @lst t vs _ hs ha =>
      have hl := ha.length
      have s1 : HT.sIx vs.length vs.length (some ((hi : Nat) : Int)) = hi := by rw [HT.sIx_nat]; omega
      refine ⟨hi, rfl, t, vs, rfl, .of hs, fun p hp => q _ _ (e2.trans (e3.trans (Ext.new hp))) (.lst upd_same ?_)⟩
      have c := (cut_is ha none (some (hi : Int))).mono (Ext.new (o := .lst (cutV vs none (some (hi : Int)))) hp)
      rw [← hl, s1, HT.sIx_none] at c
      exact c)
/-- xs[::-1] -/
theorem ev_rev {k : Nat} {p1 p3 : Pos} (h : Ev X σ H a (.lst xs)) : Ev X σ H (.Subscript a (.Slice none none (some (.UnaryOp .USub (.Constant (.int 1) k p1) p2)) p3) pos) (.lst xs.reverse) := fun H1 e1 Q q =>
  WE.of (pe_revL WE.pe) (h H1 e1 _ fun v H2 e2 hv => by
    have hv2 := hv
    cases hv with
    | @lst t vs _ hs ha =>
      refine ⟨t, vs, rfl, .of hs, fun p hp => q _ _ (e2.trans (Ext.new hp)) (.lst upd_same ?_)⟩
      have rv : ∀ {vs : List V} {ds : List D} {H : Hp}, IsAll X.K H vs ds → IsAll X.K H vs.reverse ds.reverse := by
        intro vs ds H h
        induction ds generalizing vs with
        | nil => cases h; exact .nil
        | cons d ds ih => cases h with | cons h t => rw [List.reverse_cons, List.reverse_cons]; exact (ih t).append (.cons h .nil)
      exact (rv ha).mono (Ext.new hp))
end
/-! texts that stand in equalities -/
theorem word_ok {s : Str} (h : IsWord s) : (PyData.str s).canLay0 = true := by
  show (s.cps.all (· < 0x110000)) = true
  rw [← Array.all_toList, List.all_eq_true]
  intro c hc
  have hm := h.2.2 c hc
  have all : letters.cps.toList.all (fun c => decide (c < 0x110000)) = true := by decide +kernel
  exact List.all_eq_true.mp all c hm
theorem py_str (s : Str) : py (.str s) = .str s := by rw [py]
theorem py_int (i : Int) : py (.int i) = .int i := by rw [py]
def Eff.py : Eff → PyData
  | .coins a => .tuple [.str "coins", .int a]
  | .fill a b => .tuple [.str "fill", .int a, .int b]
theorem py_eff (e : Eff) : Wb.py e.d = e.py := by
  cases e <;> (unfold Eff.d Eff.py; simp only [py, pys])
def Mnr.py (x : Mnr) : PyData := .tuple [.str x.room, .str x.job, .str x.other, x.eff.py]
theorem py_mnr (x : Mnr) : Wb.py x.d = x.py := by
  unfold Mnr.d Mnr.py
  simp only [py, pys, py_eff]
theorem plain_eff (e : Eff) : plainD e.d = true := by cases e <;> (unfold Eff.d; simp only [plainD, plainDs, Bool.and_self])
theorem plain_mnr (x : Mnr) : plainD x.d = true := by
  unfold Mnr.d
  simp only [plainD, plainDs, plain_eff, Bool.and_self]
theorem eqvStr (a b : Str) : PyData.eqv (.str a) (.str b) = decide (a = b) := by
  show (a == b) = _
  by_cases h : a = b
  · rw [decide_eq_true h]; exact beq_iff_eq.mpr h
  · rw [decide_eq_false h]; exact beq_eq_false_iff_ne.mpr h
theorem eqvInt (a b : Int) : PyData.eqv (.int a) (.int b) = decide (a = b) := by
  show (a == b) = _
  by_cases h : a = b
  · rw [decide_eq_true h]; exact beq_iff_eq.mpr h
  · rw [decide_eq_false h]; exact beq_eq_false_iff_ne.mpr h
theorem eqvT (l r : List PyData) : PyData.eqv (.tuple l) (.tuple r) = PyData.eqvAll l r := rfl
theorem eqvNil : PyData.eqvAll [] [] = true := rfl
theorem eqvCons (a b : PyData) (l r : List PyData) : PyData.eqvAll (a :: l) (b :: r) = (PyData.eqv a b && PyData.eqvAll l r) := rfl
theorem coins_fill : decide (("coins" : Str) = "fill") = false := by decide +kernel
theorem fill_coins : decide (("fill" : Str) = "coins") = false := by decide +kernel
theorem natD (a b : Nat) : decide ((a : Int) = (b : Int)) = decide (a = b) := by
  by_cases h : a = b
  · rw [decide_eq_true h, decide_eq_true (by rw [h])]
  · rw [decide_eq_false h, decide_eq_false (by omega)]
theorem eqv_eff : ∀ a b : Eff, PyData.eqv a.py b.py = decide (a = b)
  | .coins a, .coins b => by
    simp only [Eff.py, eqvT, eqvCons, eqvNil, eqvStr, eqvInt, natD]
    by_cases h : a = b
    · subst h; simp
    · simp [h]
  | .coins a, .fill b c => by
    simp only [Eff.py, eqvT, eqvCons, eqvStr, coins_fill]
    simp
  | .fill b c, .coins a => by
    simp only [Eff.py, eqvT, eqvCons, eqvStr, fill_coins]
    simp
  | .fill a b, .fill c d => by
    simp only [Eff.py, eqvT, eqvCons, eqvNil, eqvStr, eqvInt, natD]
    by_cases h : a = c <;> by_cases h2 : b = d <;> simp [h, h2]
theorem eqv_mnr (x y : Mnr) : PyData.eqv x.py y.py = decide (x = y) := by
  obtain ⟨a, b, c, d⟩ := x
  obtain ⟨a', b', c', d'⟩ := y
  simp only [Mnr.py, eqvT, eqvCons, eqvNil, eqvStr, eqv_eff]
  by_cases h1 : a = a' <;> by_cases h2 : b = b' <;> by_cases h3 : c = c' <;> by_cases h4 : d = d' <;> simp [h1, h2, h3, h4]
theorem shp_eff (e : Eff) : Shp 1 e.py := by
  cases e
  · refine Shp.tup (k := 0) fun d hd => ?_
    rcases List.mem_cons.mp hd with rfl | hd
    · exact .str (by decide +kernel)
    · rcases List.mem_singleton.mp hd with rfl; exact .int
  · refine Shp.tup (k := 0) fun d hd => ?_
    rcases List.mem_cons.mp hd with rfl | hd
    · exact .str (by decide +kernel)
    · rcases List.mem_cons.mp hd with rfl | hd
      · exact .int
      · rcases List.mem_singleton.mp hd with rfl; exact .int
theorem shp_mnr {x : Mnr} (h : WfX x) : Shp 2 x.py := by
  refine Shp.tup (k := 1) fun d hd => ?_
  rcases List.mem_cons.mp hd with rfl | hd
  · exact (Shp.str (word_ok h.room)).mono (by decide)
  · rcases List.mem_cons.mp hd with rfl | hd
    · exact (Shp.str (word_ok h.job)).mono (by decide)
    · rcases List.mem_cons.mp hd with rfl | hd
      · exact (Shp.str (word_ok h.other)).mono (by decide)
      · rcases List.mem_singleton.mp hd with rfl; exact shp_eff _
/-- for, the walked thing made where the walk begins (the heap B) -/
theorem ws_forI {X : Cx} {iter tg : Expr} {σ : L2.St} {H : Hp} {pos : Pos} {xs : List D} {Dn : Ends} {body : List Stmt} {g : TG} (hp : PassesOwn (model X.prog X.w) X.A X.env X.xe) (hc : X.calm = true) (hi : EvI X σ H tg iter xs) (hg : PG X tg g) (Jv : Hp → Nat → L2.St → Hp → Prop)
    (h0 : ∀ B H1, Ext H B → Ext B H1 → Jv B 0 σ H1) (hs : ∀ B i d σ' H' v H'', xs[i]? = some d → Ext B H' → Jv B i σ' H' → Ext H' H'' → Is X.K H'' v d → g v σ' H'' fun σ2 H2 => WSs X body { Dn with nx := fun σ H => Ext B H ∧ Jv B (i + 1) σ H, ct := fun σ H => Ext B H ∧ Jv B (i + 1) σ H, bk := Dn.nx } σ2 H2)
    (hd : ∀ B σ' H', Ext B H' → Jv B xs.length σ' H' → Dn.nx σ' H') (hf : ∀ x, foldedSetIterable iter X.env x = pure x := by intro _; rfl) : WS X (.For tg iter body [] pos) Dn σ H := by
  refine WS.of (ps_for hp hc WI.pi hg WSs.pss hf) (hi H (Ext.refl _) _ fun J B e2 y => ?_)
  refine ⟨fun i m σ H => m = xs.length - i ∧ i ≤ xs.length ∧ Ext B H ∧ Jv B i σ H, ⟨xs.length, by simp, Nat.zero_le _, Ext.refl _, h0 B B e2 (Ext.refl _)⟩, ?_⟩
  rintro i m σ' H' ⟨rfl, hle, eB, pj⟩
  by_cases hlt : i < xs.length
  · refine .inr ⟨y.go i H' eB hlt, fun σ H => Ext B H ∧ Jv B (i + 1) σ H, fun σ2 H3 p' => ⟨xs.length - (i + 1), by omega, rfl, hlt, p'⟩, fun x H'' yy => ?_⟩
    have hd' : xs[i]? = some xs[i] := List.getElem?_eq_getElem hlt
    obtain ⟨e1, v1⟩ := y.yld i H' x H'' xs[i] eB hd' yy
    exact hs B i xs[i] σ' H' x H'' hd' eB pj e1 v1
  · have e : i = xs.length := by omega
    subst e
    exact .inl ⟨y.stop H' eB, hd B σ' H' eB pj⟩
end Wb
/-! Manners asked; marks ahead. -/
namespace Wb
open PySem PySem.Spec L2
section
variable {P : Program} {w : World} {K : PySem.W.Frag} {mg : Str → Option Value} {base : Heap}
/-! is_effect, is_manner -/
def Reffect : List D → D → Prop := fun ds d => ∃ e : Eff, e.ok ∧ ds = [e.d] ∧ d = .bl true
theorem countMost (T : Top w K mg) {X : Cx} {σ : L2.St} {H : Hp} {a : Expr} {pos p p2 : Pos} {n : Nat} (hP : X.prog = P) (hw : X.w = w) (hK : X.K = K) (hmg : X.mg = mg) (hb : X.base = base) (hr : Room 2 X.A) (h : Ev X σ H a (.int (n : Int))) (hn : n ≤ 3) (hg : Gl X "is_count") (hg2 : Gl X "MOST") (hs : noStar a = true) : Ev X σ H (.Call (.Name "is_count" p) [a, .Name "MOST" p2] [] pos) (.bl true) := by
  subst hP hw hK hmg hb
  obtain ⟨t, ht⟩ := T.c_most
  exact ev_call (kp_is_count2 T).1 hr (eva_cons h (eva_cons (ev_globI ht hg2) eva_nil rfl) hs) ⟨n, by omega, .inr ⟨3, by omega, rfl⟩, rfl⟩ hg (by rw [List.all_cons, hs]; rfl)
abbrev N_is_effect : List Str := ["value", "number"]
theorem kp_is_effect (T : Top w K mg) : Kp P w K mg base "is_effect" ["value"] [] 3 (spD K Reffect) := by
  have hN : N_is_effect.Nodup := by decide +kernel
  refine kp_d (N := N_is_effect) T 4 rfl ⟨rfl, rfl, rfl, hN, rfl, by decide +kernel, by decide +kernel⟩ (fun _ _ _ _ _ _ us hl => match us, hl with | [_], _ => rfl) (fun ds d ⟨_, _, h, _⟩ => by rw [h]; rfl) ?_
  rintro cdv A outer s H vs ds d Q E hr hv ⟨e, ok, rfl, rfl⟩ k
  obtain ⟨v0, rfl, h0⟩ := isAll1 hv
  cases e with
  | coins a =>
    have h0 : Is K H v0 (.tup [.str "coins", .int a]) := h0
    have ok : a ≤ 3 := ok
    refine wss_cons (ws_skip (EvW.t ?_) fun H1 e1 => ?_)
    · refine EvW.is (evw_or (c := false) (d := false) (evt_not (c := true) (evt_val (ev_isi T.f_isinstance T.f_tuple PyProof.Rows.boot_tuple (ev_v 0 h0) k_tt))) fun _ => ?_) rfl
      refine EvW.is (evw_or (c := false) (d := false) (EvT.is (evt_niIT (ss := [2, 3]) (ev_lenT T.f_len (ev_v 0 h0)) (ev_tup (eva_cons ev_int (eva_cons ev_int eva_nil)) (by show 2 ≤ 100000; decide))) (by show (!decide (((2 : Nat) : Int) ∈ ([2, 3] : List Int))) = false; decide)) fun _ => ?_) rfl
      exact evw_or1 (evt_not (c := true) (evt_val (ev_isi T.f_isinstance T.f_str PyProof.Rows.boot_str (ev_ixTc 0 (d := .str "coins") rfl (ev_v 0 h0)) k_ss)))
    replace h0 := h0.mono e1
    refine wss_cons (ws_skip (EvT.is (evt_neS (ev_ixTc 0 (d := .str "coins") rfl (ev_v 0 h0)) (ev_ifExp (c := true) (d := .str "coins") (EvT.is (evt_eqI (ev_lenT T.f_len (ev_v 0 h0)) ev_int) (decide_eq_true rfl)) (fun _ => ev_str) fun z => by cases z)) (by rw [decide_eq_true rfl]; rfl)) fun H2 e2 => ?_)
    replace h0 := h0.mono e2
    refine wss_one (ws_ret (Ev.is (ev_allB (bs := [a].map fun _ => true) rfl T.f_all (Ev.is (ev_lcN (l := [a]) (E := fun n : Nat => .int (n : Int)) (own := [("number", 1)]) (g := gName 1) (fun _ => .bl true) rfl hN (blkOk_by (by kernel_rfl)) (show EvI _ _ _ _ _ (List.drop 1 [D.str "coins", D.int a]) from evi_tupF (ev_cutT (lo := 1) (ev_v 0 h0) ev_int (by decide) (by show 1 ≤ 2; decide))) (by show 1 ≤ 100000; decide) (fun _ _ _ _ _ => pgn 1 hN) gm_name ?_ (fun _ _ => noLst_bl _)) rfl)) rfl) fun v H3 e3 hv => k v H3 (e1.trans (e2.trans e3)) hv)
    intro n hn v1 H3 e3 h1
    rcases List.mem_singleton.mp hn with rfl
    exact ⟨rfl, rfl, fun _ _ _ _ _ => countMost T rfl rfl rfl rfl rfl hr (ev_v 1 h1) ok rfl rfl rfl⟩
  | fill a b =>
    have h0 : Is K H v0 (.tup [.str "fill", .int a, .int b]) := h0
    have ok : a ≤ 3 ∧ b ≤ 3 := ok
    refine wss_cons (ws_skip (EvW.t ?_) fun H1 e1 => ?_)
    · refine EvW.is (evw_or (c := false) (d := false) (evt_not (c := true) (evt_val (ev_isi T.f_isinstance T.f_tuple PyProof.Rows.boot_tuple (ev_v 0 h0) k_tt))) fun _ => ?_) rfl
      refine EvW.is (evw_or (c := false) (d := false) (EvT.is (evt_niIT (ss := [2, 3]) (ev_lenT T.f_len (ev_v 0 h0)) (ev_tup (eva_cons ev_int (eva_cons ev_int eva_nil)) (by show 2 ≤ 100000; decide))) (by show (!decide (((3 : Nat) : Int) ∈ ([2, 3] : List Int))) = false; decide)) fun _ => ?_) rfl
      exact evw_or1 (evt_not (c := true) (evt_val (ev_isi T.f_isinstance T.f_str PyProof.Rows.boot_str (ev_ixTc 0 (d := .str "fill") rfl (ev_v 0 h0)) k_ss)))
    replace h0 := h0.mono e1
    refine wss_cons (ws_skip (EvT.is (evt_neS (ev_ixTc 0 (d := .str "fill") rfl (ev_v 0 h0)) (ev_ifExp (c := false) (d := .str "fill") (EvT.is (evt_eqI (ev_lenT T.f_len (ev_v 0 h0)) ev_int) (by show decide (((3 : Nat) : Int) = 2) = false; decide)) (fun z => by cases z) fun _ => ev_str)) (by rw [decide_eq_true rfl]; rfl)) fun H2 e2 => ?_)
    replace h0 := h0.mono e2
    refine wss_one (ws_ret (Ev.is (ev_allB (bs := [a, b].map fun _ => true) rfl T.f_all (Ev.is (ev_lcN (l := [a, b]) (E := fun n : Nat => .int (n : Int)) (own := [("number", 1)]) (g := gName 1) (fun _ => .bl true) rfl hN (blkOk_by (by kernel_rfl)) (show EvI _ _ _ _ _ (List.drop 1 [D.str "fill", D.int a, D.int b]) from evi_tupF (ev_cutT (lo := 1) (ev_v 0 h0) ev_int (by decide) (by show 1 ≤ 3; decide))) (by show 2 ≤ 100000; decide) (fun _ _ _ _ _ => pgn 1 hN) gm_name ?_ (fun _ _ => noLst_bl _)) rfl)) rfl) fun v H3 e3 hv => k v H3 (e1.trans (e2.trans e3)) hv)
    intro n hn v1 H3 e3 h1
    have hn3 : n ≤ 3 := by
      rcases List.mem_cons.mp hn with rfl | hn
      · exact ok.1
      · rw [List.mem_singleton.mp hn]; exact ok.2
    exact ⟨rfl, rfl, fun _ _ _ _ _ => countMost T rfl rfl rfl rfl rfl hr (ev_v 1 h1) hn3 rfl rfl rfl⟩
def Rmanner : List D → D → Prop := fun ds d => ∃ x : Mnr, WfX x ∧ ds = [x.d] ∧ d = .bl true
abbrev N_is_manner : List Str := ["value"]
theorem kp_is_manner (T : Top w K mg) : Kp P w K mg base "is_manner" ["value"] [] 4 (spD K Rmanner) := by
  have hN : N_is_manner.Nodup := by decide +kernel
  refine kp_d (N := N_is_manner) T 5 rfl ⟨rfl, rfl, rfl, hN, rfl, by decide +kernel, by decide +kernel⟩ (fun _ _ _ _ _ _ us hl => match us, hl with | [_], _ => rfl) (fun ds d ⟨_, _, h, _⟩ => by rw [h]; rfl) ?_
  rintro cdv A outer s H vs ds d Q E hr hv ⟨x, wx, rfl, rfl⟩ k
  obtain ⟨v0, rfl, h0⟩ := isAll1 hv
  have h0 : Is K H v0 (.tup [.str x.room, .str x.job, .str x.other, x.eff.d]) := h0
  refine wss_cons (ws_skip (EvW.t ?_) fun H1 e1 => ?_)
  · refine EvW.is (evw_or (c := false) (d := false) (evt_not (c := true) (evt_val (ev_isi T.f_isinstance T.f_tuple PyProof.Rows.boot_tuple (ev_v 0 h0) k_tt))) fun _ => ?_) rfl
    exact evw_or1 (EvT.is (evt_neI (ev_lenT T.f_len (ev_v 0 h0)) ev_int) rfl)
  replace h0 := h0.mono e1
  refine wss_one (ws_ret ?_ fun v H2 e2 hv => k v H2 (e1.trans e2) hv)
  refine Ev.is (ev_and (c := true) (d := true) (ev_call (kp_is_spelt T) (hr.mono (by decide)) (eva_cons (ev_ixTc 0 (d := .str x.room) rfl (ev_v 0 h0)) eva_nil) (.inl ⟨_, rfl, wx.room, rfl⟩)) fun _ => ?_) rfl
  refine Ev.is (ev_and (c := true) (d := true) (ev_call (kp_is_spelt T) (hr.mono (by decide)) (eva_cons (ev_ixTc 1 (d := .str x.job) rfl (ev_v 0 h0)) eva_nil) (.inl ⟨_, rfl, wx.job, rfl⟩)) fun _ => ?_) rfl
  refine Ev.is (ev_and (c := true) (d := true) (ev_call (kp_is_spelt T) (hr.mono (by decide)) (eva_cons (ev_ixTc 2 (d := .str x.other) rfl (ev_v 0 h0)) eva_nil) (.inl ⟨_, rfl, wx.other, rfl⟩)) fun _ => ?_) rfl
  exact ev_one (ev_call (kp_is_effect T) hr (eva_cons (ev_ixTc 3 (d := x.eff.d) rfl (ev_v 0 h0)) eva_nil) ⟨_, wx.eff, rfl, rfl⟩)
/-! is_better -/
def Rbetter : List D → D → Prop := fun ds d => ∃ a b : Wb.Mk, ds = [mkD a, mkD b] ∧ d = .bl (decide (a.pref < b.pref))
theorem ev_markIx {X : Cx} {σ : L2.St} {H : Hp} {e : Expr} {p ap cp : Pos} {m : Wb.Mk} (T : Top X.w X.K X.mg) (h : Ev X σ H e (mkD m)) (hg : Gl X "MARKS" := by rfl) (hs : noStar e = true := by rfl) (hb : attributeBase (.Name "MARKS" p) "index" X.env (eval (.Name "MARKS" p) X.env) = eval (.Name "MARKS" p) X.env := by rfl) (hl : (ap.endLine == cp.line) = true := by rfl) :
    Ev X σ H (.Call (.Attribute (.Name "MARKS" p) "index" ap) [e] [] cp) (.int (m.pref : Int)) := fun H1 e1 Q q => by
  have hst : starEach [e] X.env = [(false, eval e X.env)] := by rw [star_cons hs]; rfl
  refine WE.of (pe_bm PySem.F.plainAttrs_tuple PySem.F.slot_tuple_index PySem.F.type_tuple_index mt_tup_index (pe_glob (v := .ref (He.ga X.K "MARKS")) hg T.c_marks rfl (by decide)) (pa_cons WE.pe pa_nil (star_cons hs)) hb (by rw [hst]; rfl) hl (by rw [hst]; rfl) rfl) ?_
  refine ⟨.inr (.inl ⟨rfl, T.marksK⟩), h H1 e1 _ fun v H2 e2 hv => ?_⟩
  cases hv
  refine ⟨_, marksL, mkS m, m.pref, rfl, rfl, T.marks H2, marksL_get m, fun j hj hq => ?_, q _ H2 e2 (.int _)⟩
  have : ∀ j, j < 5 → ∀ m : Wb.Mk, j < m.pref → marksL[j]? ≠ some (mkS m) := by
    intro j hj5 m hjm hq
    rw [marksL_mk, List.getElem?_map] at hq
    cases ha : allMk[j]? with
    | none => rw [ha] at hq; cases hq
    | some a =>
      rw [ha] at hq
      have := mkS_inj (Option.some.inj hq)
      have hp := allMk_pref ha
      rw [this] at hp
      omega
  exact this j (Nat.lt_trans hj (pref_le m)) m hj hq
abbrev N_is_better : List Str := ["one", "other"]
theorem kp_is_better (T : Top w K mg) : Kp P w K mg base "is_better" ["one", "other"] [] 3 (spD K Rbetter) := by
  have hN : N_is_better.Nodup := by decide +kernel
  refine kp_d (N := N_is_better) T 24 rfl ⟨rfl, rfl, rfl, hN, rfl, by decide +kernel, by decide +kernel⟩ (fun _ _ _ _ _ _ us hl => match us, hl with | [_, _], _ => rfl) (fun ds d ⟨_, _, h, _⟩ => by rw [h]; rfl) ?_
  rintro cdv A outer s H vs ds d Q E hr hv ⟨a, b, rfl, rfl⟩ k
  obtain ⟨v0, v1, rfl, h0, h1⟩ := isAll2 hv
  refine wss_cons (ws_expr (ev_call (kp_check_mark T) hr (eva_cons (ev_v 0 h0) eva_nil) ⟨a, rfl, rfl⟩) fun H1 e1 => ?_)
  refine wss_cons (ws_expr (ev_call (kp_check_mark T) hr (eva_cons (ev_v 1 (h1.mono e1)) eva_nil) ⟨b, rfl, rfl⟩) fun H2 e2 => ?_)
  have ee := e1.trans e2
  exact wss_one (ws_ret (Ev.is (ev_lt (ev_markIx T (ev_v 0 (h0.mono ee))) (ev_markIx T (ev_v 1 (h1.mono ee)))) (by simp)) fun v H3 e3 hv => k v H3 (ee.trans e3) hv)
end
end Wb
/-! Marks ahead, best parts. -/
namespace Wb
open PySem PySem.Spec L2
abbrev Mrow := Str → Option Wb.Mk
def mkVal (F : Mrow) : Str → Option V := fun r => (F r).map fun m => V.str (mkS m)
abbrev markDc (F : Mrow) : D := .dct (mkVal F)
def aheadStep (G : Mrow) (job : Str) (F : Mrow) (x : Mnr) : Mrow :=
  if x.job = job then
    match G x.other with
    | none => F
    | some g => fun r => if r = x.room then some (best2 (later x.eff.mk g) ((F x.room).getD .never)) else F r
  else F
def aheadJob (rows : List Mnr) (G : Mrow) (job : Str) : Mrow := rows.foldl (aheadStep G job) fun _ => none
def ahead (rows : List Mnr) (goal : Str) : List Str → Mrow
  | [] => fun r => if r = goal then some .free else none
  | j :: b => aheadJob rows (ahead rows goal b) j
section
variable {P : Program} {w : World} {K : PySem.W.Frag} {mg : Str → Option Value} {base : Heap}
def Rahead : List D → D → Prop := fun ds d => ∃ (m : Mn) (b : List Str) (goal : Str), WfM m ∧ b.length ≤ 1000 ∧ ds = [.man m, bookD b, .str goal] ∧ d = .lst ((List.range (b.length + 1)).map fun i => markDc (ahead m.rows goal (b.drop i)))
theorem noLst_mrow (F : Mrow) : noLst (markDc F) = true := by rw [noLst]
/-- what the list holds behind i jobs from the end -/
def backL (rows : List Mnr) (goal : Str) (b : List Str) (i : Nat) : List D := (List.range (i + 1)).map fun t => markDc (ahead rows goal (b.drop (b.length - t)))
theorem backL_snoc {rows : List Mnr} {goal : Str} {b : List Str} {i : Nat} : backL rows goal b (i + 1) = backL rows goal b i ++ [markDc (ahead rows goal (b.drop (b.length - (i + 1))))] := by
  unfold backL; rw [List.range_succ (n := i + 1), List.map_append]; rfl
theorem backL_last {rows : List Mnr} {goal : Str} {b : List Str} {i : Nat} : ∃ l, backL rows goal b i = l ++ [markDc (ahead rows goal (b.drop (b.length - i)))] := by
  refine ⟨(List.range i).map fun t => markDc (ahead rows goal (b.drop (b.length - t))), ?_⟩
  unfold backL; rw [List.range_succ, List.map_append]; rfl
theorem backL_rev {rows : List Mnr} {goal : Str} {b : List Str} : (backL rows goal b b.length).reverse = (List.range (b.length + 1)).map fun i => markDc (ahead rows goal (b.drop i)) := by
  refine List.ext_getElem? fun i => ?_
  unfold backL
  by_cases h : i < b.length + 1
  · rw [List.getElem?_reverse (by simpa using h), List.getElem?_map, List.getElem?_map, List.getElem?_range h]
    rw [List.length_map, List.length_range, List.getElem?_range (by omega)]
    show some (markDc (ahead rows goal (b.drop (b.length - (b.length + 1 - 1 - i))))) = some (markDc (ahead rows goal (b.drop i)))
    rw [show b.length - (b.length + 1 - 1 - i) = i by omega]
  · rw [List.getElem?_eq_none (by simpa using Nat.le_of_not_lt h), List.getElem?_eq_none (by simpa using Nat.le_of_not_lt h)]
theorem rev_job {b : List Str} {i : Nat} {j : Str} (h : b.reverse[i]? = some j) : b.drop (b.length - (i + 1)) = j :: b.drop (b.length - i) := by
  have hi : i < b.length := by have := (List.getElem?_eq_some_iff.mp h).1; simpa using this
  rw [List.getElem?_reverse hi] at h
  obtain ⟨h1, h2⟩ := List.getElem?_eq_some_iff.mp h
  have e : b.length - (i + 1) = b.length - 1 - i := by omega
  rw [e, List.drop_eq_getElem_cons h1, h2]
  congr 2
  omega
abbrev N_marks_ahead : List Str := ["manual", "book", "goal", "found", "job", "marks", "room", "work", "there", "effect", "mark"]
theorem kp_marks_ahead (T : Top w K mg) : Kp P w K mg base "marks_ahead" ["manual", "book", "goal"] [] 2 (spD K Rahead) := by
  have hN : N_marks_ahead.Nodup := by decide +kernel
  refine kp_d (N := N_marks_ahead) T 38 rfl ⟨rfl, rfl, rfl, hN, rfl, by decide +kernel, by decide +kernel⟩ (fun _ _ _ _ _ _ us hl => match us, hl with | [_, _, _], _ => rfl) (fun ds d ⟨_, _, _, _, _, h, _⟩ => by rw [h]; rfl) ?_
  rintro cdv A outer s H vs ds d Q E hr hv ⟨m, b, goal, wm, hb, rfl, rfl⟩ k
  obtain ⟨v0, v1, v2, rfl, h0, h1, h2⟩ := isAll3 hv
  have hu := hr.units
  have hdisp : Ev (Cd P w K mg base N_marks_ahead "marks_ahead" s_marks_ahead cdv A outer s H E) [some v0, some v1, some v2, none, none, none, none, none, none, none, none] H (match defBody s_marks_ahead with | [.Assign _ (.List [e] _) _, _, _] => e | _ => .Constant .none 0 ⟨0, 0, 0, 0⟩) (markDc (ahead m.rows goal [])) := fun H1 e1 Q q => by
    refine WE.of (pe_disp (pps_cons WE.pe pe_str pps_nil) rfl rfl (fun z => by cases z) (by decide)) ?_
    intro p hp
    have e2 : Ext H1 (upd H1 p (.dK [])) := Ext.new hp
    refine (ev_v 2 (h2.mono (e1.trans e2))) _ (Ext.refl _) _ fun v H2 e3 hv => ?_
    cases hv
    refine ⟨e3 _ _ upd_same, [(Sum.inr goal, .str "free")], rfl, (by show 1 ≤ 15; decide), q _ _ ((e2.trans e3).mut hp) (.dct (ks := [goal]) upd_same (fun r => ?_) rfl (by show 1 ≤ 60; decide))⟩
    show valV [(Sum.inr goal, V.str "free")] (Sum.inr r) = _
    unfold mkVal
    show _ = Option.map _ (if r = goal then some Wb.Mk.free else none)
    by_cases c : r = goal
    · subst c; rw [if_pos rfl, valV_pos rfl]; rfl
    · rw [if_neg c, valV_neg (fun z => c (by cases z; rfl))]; rfl
  refine wss_cons (ws_set' hN (i := 3) (WE.of (pe_lst (pa_cons WE.pe pa_nil)) ?_))
  refine hdisp H (Ext.refl _) _ fun v H2 e2 hv2 => ⟨by show 1 ≤ sizeLine; decide, fun l hl => ?_⟩
  have eB := e2.trans (Ext.new (o := HO.lst [v]) hl)
  have hl0 : H l = none := e2.back hl
  have i0 : IsAll K (upd H2 l (.lst [v])) [v] (backL m.rows goal b 0) := by
    unfold backL
    refine .cons ?_ .nil
    show Is K _ v (markDc (ahead m.rows goal (b.drop (b.length - 0))))
    rw [Nat.sub_zero, List.drop_length]
    exact hv2.mono (Ext.new hl)
  refine wss_cons (ws_forS PassesOwn.never rfl (B := H) (xs := b.reverse.map D.str) (by rw [List.map_reverse]; exact evs_rev T.f_reversed (evb_v 1 h1) eB) (pgn 4 hN) (fun i σ' H' => (∃ x4 x5 x6 x7 x8 x9 x10, σ' = [some v0, some v1, some v2, some (.ref l), x4, x5, x6, x7, x8, x9, x10]) ∧ Ext H H' ∧ ∃ acc, H' l = some (.lst acc) ∧ IsAll K H' acc (backL m.rows goal b i)) (fun i σ' H' h => h.2.1) (fun H3 e3 => ⟨⟨_, _, _, _, _, _, _, rfl⟩, eB.trans e3, [v], e3 _ _ upd_same, i0.mono e3⟩) ?_ ?_)
  · rintro i d σ' H' v4 hd ⟨⟨x4, x5, x6, x7, x8, x9, x10, rfl⟩, e3, acc, ha, hacc⟩ hv4
    obtain ⟨j, hj, rfl⟩ := map_get hd
    have hil : i < b.length := by have := (List.getElem?_eq_some_iff.mp hj).1; simpa using this
    obtain ⟨lst0, hlast⟩ := backL_last (rows := m.rows) (goal := goal) (b := b) (i := i)
    generalize hG : ahead m.rows goal (b.drop (b.length - i)) = G at hlast
    have hcur : Is K H' (.ref l) (.lst (lst0 ++ [markDc G])) := by rw [← hlast]; exact .lst ha hacc
    have hal := hacc.length
    unfold backL at hal
    simp only [List.length_map, List.length_range] at hal
    refine wss_cons (ws_set' hN (i := 5) (WE.of pe_dnewK fun a hna => ?_))
    have st := TabD.start (Ext.refl H') hna
    refine wss_cons (ws_forS PassesOwn.never rfl (B := H') (evs_list (evb_rows T (evb_v 0 (h0.mono e3)) st.ext) st.ext) (pg4 6 7 8 9 rfl hN) (fun i σ' H4 => (∃ x6 x7 x8 x9 x10, σ' = [some v0, some v1, some v2, some (.ref l), some v4, some (.ref a), x6, x7, x8, x9, x10]) ∧ TabD H' H4 a i (mkVal ((m.rows.take i).foldl (aheadStep G j) fun _ => none))) (fun i σ' H4 h => h.2.ext) (fun H4 e4 => ⟨⟨_, _, _, _, _, rfl⟩, (st.mono e4).congr fun _ => rfl⟩) ?_ ?_)
    · rintro t d σ' H4 vr hd ⟨⟨x6, x7, x8, x9, x10, rfl⟩, tm⟩ hvr
      obtain ⟨x, hx, hxm, rfl⟩ := mnr_mem hd
      refine gTup4B hvr tm.ext fun w6 w7 w8 w9 i6 i7 i8 i9 => ?_
      have htl : t < m.rows.length := (List.getElem?_eq_some_iff.mp hx).1
      have few := wm.few
      have snoc : (m.rows.take (t + 1)).foldl (aheadStep G j) (fun _ => none) = aheadStep G j ((m.rows.take t).foldl (aheadStep G j) fun _ => none) x := by rw [take_succ' hx, List.foldl_append]; rfl
      generalize hF : (m.rows.take t).foldl (aheadStep G j) (fun _ => none) = F at tm snoc
      have hj4 := hv4.mono (e3.trans tm.ext)
      refine wss_one (ws_if (c := decide (x.job = j) && (G x.other).isSome) (EvW.t (evw_and (EvT.is (evt_eqS (ev_v 7 (i7.mono tm.ext)) (ev_v 4 hj4)) rfl) fun _ => evw_and1 (EvT.is (evt_dinF hu (ev_v 8 (i8.mono tm.ext)) (ev_ixLast (ev_v 3 (hcur.mono tm.ext)) (ev_neg ev_int))) (by unfold mkVal; rw [Option.isSome_map])))) (fun c H5 e5 => ?_) (fun c H5 e5 => ?_))
      · obtain ⟨c1, c2⟩ := Bool.and_eq_true_iff.mp c
        have c1 := of_decide_eq_true c1
        obtain ⟨g, hg⟩ := Option.isSome_iff_exists.mp c2
        have t5 := tm.mono e5
        have q : aheadStep G j F x = fun r => if r = x.room then some (best2 (later x.eff.mk g) ((F x.room).getD .never)) else F r := by unfold aheadStep; rw [if_pos c1, hg]
        refine wss_cons (ws_set hN (i := 10) (ev_call (kp_later T) (hr.mono (by decide)) (eva_cons (ev_call (kp_effect_mark T) (hr.mono (by decide)) (eva_cons (ev_v 9 (i9.mono t5.ext)) eva_nil) ⟨_, rfl, rfl⟩) (eva_cons (ev_dgetF (v := .str (mkS g)) (d := mkD g) hu (ev_ixLast (ev_v 3 (hcur.mono t5.ext)) (ev_neg ev_int)) (ev_v 8 (i8.mono t5.ext)) (by unfold mkVal; rw [hg]; rfl) (fun _ => .str _)) eva_nil)) ⟨_, _, rfl, rfl⟩) fun v10 H6 e6 h10 => ?_)
        have t6 := t5.mono e6
        have tis : Is K H6 (.ref a) (markDc F) := t6.is (by omega)
        refine wss_one (ws_dput hu t6 (by omega) (d := mkD (best2 (later x.eff.mk g) ((F x.room).getD .never))) (ev_call (kp_best_of T) (hr.mono (by decide)) (eva_cons (d := .lst ([later x.eff.mk g, (F x.room).getD .never].map mkD)) (ev_lst (eva_cons (ev_v 10 h10) (eva_cons (ev_dget2F (d := mkD ((F x.room).getD .never)) (d0 := .str "never") (w := .str "never") hu (ev_v 5 tis) (ev_v 6 (i6.mono t6.ext)) ev_str (fun _ v hv => by cases hv; rfl) (fun H => by unfold mkVal; cases F x.room <;> exact .str _)) eva_nil)) (by show 2 ≤ 100000; decide)) eva_nil) ⟨_, rfl, by rw [bestL_cons, bestL_cons, bestL_nil, best_never]⟩) (fun _ v hv => by cases hv; rfl) (ev_v 5 (.obj a)) (ev_v 6 (i6.mono t6.ext)) fun H7 t7 => ⟨⟨_, _, _, _, _, rfl⟩, ?_⟩)
        rw [snoc, q]
        refine t7.congr fun r => ?_
        unfold mkVal
        show _ = Option.map _ (if r = x.room then some (best2 (later x.eff.mk g) ((F x.room).getD .never)) else F r)
        by_cases e : r = x.room
        · rw [if_pos e, if_pos e]; rfl
        · rw [if_neg e, if_neg e]
      · refine wss_nil ⟨⟨_, _, _, _, _, rfl⟩, ?_⟩
        have q : aheadStep G j F x = F := by
          unfold aheadStep
          by_cases c1 : x.job = j
          · rw [if_pos c1]
            rw [decide_eq_true c1, Bool.true_and] at c
            cases hg : G x.other with
            | none => rfl
            | some cc => rw [hg] at c; cases c
          · rw [if_neg c1]
        rw [snoc, q]
        exact (tm.mono e5).le (Nat.le_succ _)
    · rintro σ' H4 ⟨⟨x6, x7, x8, x9, x10, rfl⟩, tm⟩
      rw [List.length_map, List.take_length] at tm
      have few := wm.few
      have tis : Is K H4 (.ref a) (markDc (aheadJob m.rows G j)) := tm.is (by omega)
      have ha4 := tm.ext _ _ ha
      refine wss_one (ws_append (we_v 3 ⟨l, acc, rfl, ha4, by omega, we_v 5 ⟨ha4, ⟨_, _, _, _, _, _, _, rfl⟩, (e3.trans tm.ext).mut hl0, acc ++ [.ref a], upd_same, ?_⟩⟩))
      have kp : ExtN H4 (upd H4 l (.lst (acc ++ [V.ref a]))) := (Ext.refl H4).n.upd ha4
      rw [backL_snoc]
      refine IsAll.append ((hacc.mono tm.ext).keep kp (noLsts_all fun d hd => by obtain ⟨i, _, rfl⟩ := List.mem_map.mp hd; exact noLst_mrow _)) (.cons ?_ .nil)
      rw [rev_job hj, ahead, hG]
      exact tis.keep kp (noLst_mrow _)
  · rintro σ' H' ⟨⟨x4, x5, x6, x7, x8, x9, x10, rfl⟩, e3, acc, ha, hacc⟩
    rw [List.length_map, List.length_reverse] at hacc
    refine wss_one (ws_ret (Ev.is (ev_rev (ev_v 3 (.lst ha hacc))) ?_) fun v H4 e4 hv => k v H4 (e3.trans e4) hv)
    rw [backL_rev]
/-! keeps_mark -/
def Rkeeps : List D → D → Prop := fun ds d => ∃ (x : Mnr) (F : Mrow) (mk : Wb.Mk), ds = [x.d, markDc F, mkD mk] ∧ d = .bl (match F x.other with | none => false | some g => decide (later x.eff.mk g = mk))
abbrev N_keeps_mark : List Str := ["manner", "marks", "mark"]
theorem kp_keeps_mark (T : Top w K mg) : Kp P w K mg base "keeps_mark" ["manner", "marks", "mark"] [] 2 (spD K Rkeeps) := by
  have hN : N_keeps_mark.Nodup := by decide +kernel
  refine kp_d (N := N_keeps_mark) T 39 rfl ⟨rfl, rfl, rfl, hN, rfl, by decide +kernel, by decide +kernel⟩ (fun _ _ _ _ _ _ us hl => match us, hl with | [_, _, _], _ => rfl) (fun ds d ⟨_, _, _, h, _⟩ => by rw [h]; rfl) ?_
  rintro cdv A outer s H vs ds d Q E hr hv ⟨x, F, mk, rfl, rfl⟩ k
  obtain ⟨v0, v1, v2, rfl, h0, h1, h2⟩ := isAll3 hv
  have hu := hr.units
  have h0 : Is K H v0 (.tup [.str x.room, .str x.job, .str x.other, x.eff.d]) := h0
  refine wss_one (ws_ret (Ev.is (ev_and (c := (F x.other).isSome) (d := match F x.other with | none => false | some g => decide (later x.eff.mk g = mk)) (Ev.is (ev_dinF hu (ev_ixTc 2 (d := .str x.other) rfl (ev_v 0 h0)) (ev_v 1 h1)) (by unfold mkVal; rw [Option.isSome_map])) fun c => ?_) (by cases F x.other <;> rfl)) k)
  obtain ⟨g, hg⟩ := Option.isSome_iff_exists.mp c
  rw [hg]
  refine ev_one (Ev.is (ev_eqS (ev_call (kp_later T) (hr.mono (by decide)) (eva_cons (ev_call (kp_effect_mark T) (hr.mono (by decide)) (eva_cons (ev_ixTc 3 (d := x.eff.d) rfl (ev_v 0 h0)) eva_nil) ⟨_, rfl, rfl⟩) (eva_cons (ev_dgetF (v := .str (mkS g)) (d := mkD g) hu (ev_v 1 h1) (ev_ixTc 2 (d := .str x.other) rfl (ev_v 0 h0)) (by unfold mkVal; rw [hg]; rfl) (fun _ => .str _)) eva_nil)) ⟨_, _, rfl, rfl⟩) (ev_v 2 h2)) ?_)
  show D.bl (decide (mkS _ = mkS _)) = _
  rw [mkS_eq]
end
end Wb
/-! Best parts. -/
namespace Wb
open PySem PySem.Spec L2
/-- how a mark of a row comes about -/
theorem aheadJob_from {G : Mrow} {j : Str} : ∀ (rows : List Mnr) (F : Mrow) (r : Str) (mk : Wb.Mk), rows.foldl (aheadStep G j) F r = some mk → F r = some mk ∨ ∃ x ∈ rows, x.room = r ∧ x.job = j ∧ ∃ g, G x.other = some g ∧ later x.eff.mk g = mk
  | [], F, r, mk, h => .inl h
  | x :: rows, F, r, mk, h => by
    rcases aheadJob_from rows (aheadStep G j F x) r mk h with h | ⟨y, hy, q⟩
    · unfold aheadStep at h
      by_cases c : x.job = j
      · rw [if_pos c] at h
        cases hg : G x.other with
        | none => rw [hg] at h; exact .inl h
        | some g =>
          rw [hg] at h
          by_cases e : r = x.room
          · subst e
            have h : some (best2 (later x.eff.mk g) ((F x.room).getD .never)) = some mk := by
              have := h
              simp only [if_true] at this
              exact this
            have h := Option.some.inj h
            unfold best2 at h
            by_cases q : (later x.eff.mk g).pref ≤ ((F x.room).getD .never).pref
            · rw [if_pos q] at h
              exact .inr ⟨x, .head _, rfl, c, g, hg, h⟩
            · rw [if_neg q] at h
              cases hF : F x.room with
              | some f => rw [hF] at h; exact .inl (by rw [← h]; rfl)
              | none =>
                rw [hF] at q
                exact absurd (by have := pref_le (later x.eff.mk g); show _ ≤ 4; omega) q
          · have h : F r = some mk := by
              have := h
              simp only [if_neg e] at this
              exact this
            exact .inl h
      · rw [if_neg c] at h; exact .inl h
    · exact .inr ⟨y, .tail _ hy, q⟩
theorem ahead_from {rows : List Mnr} {goal j r : Str} {b : List Str} {mk : Wb.Mk} (h : ahead rows goal (j :: b) r = some mk) : ∃ x ∈ rows, x.room = r ∧ x.job = j ∧ ∃ g, ahead rows goal b x.other = some g ∧ later x.eff.mk g = mk := by
  rw [ahead] at h
  rcases aheadJob_from rows _ r mk h with h | h
  · cases h
  · exact h
def keepB (F : Mrow) (mk : Wb.Mk) (x : Mnr) : Bool := match F x.other with | none => false | some g => decide (later x.eff.mk g = mk)
def stepsOf (rows : List Mnr) (r j : Str) : List Mnr := rows.filter fun x => decide (x.room = r) && decide (x.job = j)
def part (rows : List Mnr) (goal : Str) : List Str → Str → List Mnr
  | [], _ => []
  | j :: b, r => match (stepsOf rows r j).filter (keepB (ahead rows goal b) ((ahead rows goal (j :: b) r).getD .never)) with
    | [] => []
    | x :: _ => x :: part rows goal b x.other
theorem part_step {rows : List Mnr} {goal j r : Str} {b : List Str} (h : (ahead rows goal (j :: b) r).isSome = true) :
    ∃ x l mk, ahead rows goal (j :: b) r = some mk ∧ (stepsOf rows r j).filter (keepB (ahead rows goal b) mk) = x :: l ∧ x ∈ rows ∧ x.room = r ∧ x.job = j ∧ (ahead rows goal b x.other).isSome = true ∧ part rows goal (j :: b) r = x :: part rows goal b x.other := by
  obtain ⟨mk, hmk⟩ := Option.isSome_iff_exists.mp h
  obtain ⟨y, hy, y1, y2, g, hg, hk⟩ := ahead_from hmk
  have hm : y ∈ (stepsOf rows r j).filter (keepB (ahead rows goal b) mk) := by
    refine List.mem_filter.mpr ⟨List.mem_filter.mpr ⟨hy, by rw [decide_eq_true y1, decide_eq_true y2]; rfl⟩, ?_⟩
    unfold keepB
    rw [hg]
    exact decide_eq_true hk
  cases hl : (stepsOf rows r j).filter (keepB (ahead rows goal b) mk) with
  | nil => rw [hl] at hm; cases hm
  | cons x l =>
    have hx : x ∈ (stepsOf rows r j).filter (keepB (ahead rows goal b) mk) := by rw [hl]; exact .head _
    obtain ⟨x1, x2⟩ := List.mem_filter.mp hx
    obtain ⟨x3, x4⟩ := List.mem_filter.mp x1
    obtain ⟨x5, x6⟩ := Bool.and_eq_true_iff.mp x4
    refine ⟨x, l, mk, hmk, hl, x3, of_decide_eq_true x5, of_decide_eq_true x6, ?_, ?_⟩
    · unfold keepB at x2
      cases hg : ahead rows goal b x.other with
      | none => rw [hg] at x2; cases x2
      | some g => rfl
    · have e : (ahead rows goal (j :: b) r).getD .never = mk := by rw [hmk]; rfl
      rw [part, e, hl]
theorem part_len {rows : List Mnr} {goal : Str} : ∀ (b : List Str) (r : Str), (ahead rows goal b r).isSome = true → (part rows goal b r).length = b.length
  | [], _, _ => rfl
  | j :: b, r, h => by
    obtain ⟨x, l, mk, _, _, _, _, _, h2, h3⟩ := part_step h
    rw [h3, List.length_cons, part_len b _ h2, List.length_cons]
section
variable {P : Program} {w : World} {K : PySem.W.Frag} {mg : Str → Option Value} {base : Heap}
/-- (a, b) == (c, d), words -/
theorem evt_eqPair {X : Cx} {σ : L2.St} {H : Hp} {a b : Expr} {pos : Pos} {x y z u : Str} (hu : X.A.units + 64 < cLine) (h : Ev X σ H a (.tup [.str x, .str y])) (h2 : Ev X σ H b (.tup [.str z, .str u])) (hx : IsWord x) (hy : IsWord y) (hz : IsWord z) (huu : IsWord u) :
    EvT X σ H (.Compare a [.Eq] [b] pos) (decide (x = z) && decide (y = u)) := by
  have pl : ∀ a b : Str, plainD (.tup [.str a, .str b]) = true := fun a b => by simp only [plainD, plainDs, Bool.and_self]
  have pe : ∀ a b : Str, py (.tup [.str a, .str b]) = .tuple [.str a, .str b] := fun a b => by simp only [py, pys]
  have sh : ∀ a b : Str, IsWord a → IsWord b → SeqAt.shaped (py (.tup [.str a, .str b])) = true := fun a b ha hb => by
    rw [pe]
    refine (Shp.tup (k := 0) fun d hd => ?_).ok (by decide)
    rcases List.mem_cons.mp hd with rfl | hd
    · exact .str (word_ok ha)
    · rcases List.mem_singleton.mp hd with rfl; exact .str (word_ok hb)
  have e := evt_cmp (pos := pos) (op_eqD hu) (r2_eqD (pl x y) (pl z u) (sh x y hx hy) (sh z u hz huu)) h h2
  refine EvT.is e ?_
  rw [pe, pe, eqvT, eqvCons, eqvCons, eqvNil, eqvStr, eqvStr, Bool.and_true]
theorem evt_nePair {X : Cx} {σ : L2.St} {H : Hp} {a b : Expr} {pos : Pos} {x y z u : Str} (hu : X.A.units + 64 < cLine) (h : Ev X σ H a (.tup [.str x, .str y])) (h2 : Ev X σ H b (.tup [.str z, .str u])) (hx : IsWord x) (hy : IsWord y) (hz : IsWord z) (huu : IsWord u) :
    EvT X σ H (.Compare a [.NotEq] [b] pos) (!(decide (x = z) && decide (y = u))) := by
  have pl : ∀ a b : Str, plainD (.tup [.str a, .str b]) = true := fun a b => by simp only [plainD, plainDs, Bool.and_self]
  have pe : ∀ a b : Str, py (.tup [.str a, .str b]) = .tuple [.str a, .str b] := fun a b => by simp only [py, pys]
  have sh : ∀ a b : Str, IsWord a → IsWord b → SeqAt.shaped (py (.tup [.str a, .str b])) = true := fun a b ha hb => by
    rw [pe]
    refine (Shp.tup (k := 0) fun d hd => ?_).ok (by decide)
    rcases List.mem_cons.mp hd with rfl | hd
    · exact .str (word_ok ha)
    · rcases List.mem_singleton.mp hd with rfl; exact .str (word_ok hb)
  have e := evt_cmp (pos := pos) (op_neD hu) (r2_neD (pl x y) (pl z u) (sh x y hx hy) (sh z u hz huu)) h h2
  refine EvT.is e ?_
  rw [pe, pe, eqvT, eqvCons, eqvCons, eqvNil, eqvStr, eqvStr, Bool.and_true]
theorem noLst_mnr (x : Mnr) : noLst x.d = true := by
  obtain ⟨a, b, c, d⟩ := x
  cases d <;> (unfold Mnr.d Eff.d; simp only [noLst, noLsts, Bool.and_self])
def partD (rows : List Mnr) (goal : Str) (b : List Str) (r : Str) : D := match ahead rows goal b r with
  | none => .non
  | some _ => .lst ((part rows goal b r).map Mnr.d)
def Rpart : List D → D → Prop := fun ds d => ∃ (m : Mn) (b : List Str) (r g : Str), WfM m ∧ WfB b ∧ r ∈ m.rooms ∧ g ∈ m.rooms ∧ ds = [.man m, bookD b, .str r, .str g] ∧ d = partD m.rows g b r
theorem marks_ix {m : Mn} {b : List Str} {g : Str} {i : Nat} (h : i ≤ b.length) : ((List.range (b.length + 1)).map fun i => markDc (ahead m.rows g (b.drop i)))[i]? = some (markDc (ahead m.rows g (b.drop i))) := by
  rw [List.getElem?_map, List.getElem?_range (by omega)]; rfl
abbrev N_best_part : List Str := ["manual", "book", "room", "other", "marks", "found", "here", "at", "job", "steps", "manner"]
theorem kp_best_part (T : Top w K mg) : Kp P w K mg base "best_part" ["manual", "book", "room", "other"] [] 5 (spD K Rpart) := by
  have hN : N_best_part.Nodup := by decide +kernel
  refine kp_d (N := N_best_part) T 40 rfl ⟨rfl, rfl, rfl, hN, rfl, by decide +kernel, by decide +kernel⟩ (fun _ _ _ _ _ _ us hl => match us, hl with | [_, _, _, _], _ => rfl) (fun ds d ⟨_, _, _, _, _, _, _, _, h, _⟩ => by rw [h]; rfl) ?_
  rintro cdv A outer s H vs ds d Q E hr hv ⟨m, b, room, goal, wm, wb, hr1, hg1, rfl, rfl⟩ k
  obtain ⟨v0, v1, v2, v3, rfl, h0, h1, h2, h3⟩ := isAll4 hv
  have hu := hr.units
  have hb := wb.small
  refine wss_cons (ws_expr (ev_call (kp_check_part T) (hr.mono (by decide)) (eva_cons (ev_v 0 h0) (eva_cons (ev_v 1 h1) (eva_cons (ev_v 2 h2) (eva_cons (ev_v 3 h3) eva_nil)))) ⟨m, b, room, goal, wm, wb, hr1, hg1, rfl, rfl⟩) fun H1 e1 => ?_)
  refine wss_cons (ws_set hN (ev_call (kp_marks_ahead T) (hr.mono (by decide)) (eva_cons (ev_v 0 (h0.mono e1)) (eva_cons (ev_v 1 (h1.mono e1)) (eva_cons (ev_v 3 (h3.mono e1)) eva_nil))) ⟨m, b, goal, wm, hb, rfl, rfl⟩) (i := 4) fun v4 H2 e2 h4 => ?_)
  have e12 := e1.trans e2
  replace h0 := h0.mono e12
  replace h1 := h1.mono e12
  replace h2 := h2.mono e12
  replace h3 := h3.mono e12
  unfold partD at k
  cases ha : ahead m.rows goal b room with
  | none =>
    rw [ha] at k
    refine wss_cons (ws_if (c := true) (EvT.is (evt_dniF hu (ev_v 2 h2) (ev_ixLc 0 (marks_ix (Nat.zero_le _)) (ev_v 4 h4))) (by unfold mkVal; rw [List.drop_zero, ha]; rfl)) (fun _ H3 e3 => ?_) fun z => by cases z)
    exact wss_one (ws_ret ev_non fun v H4 e4 hv => k v H4 (e12.trans (e3.trans e4)) hv)
  | some mk0 =>
    rw [ha] at k
    have k : ∀ v H', Ext H H' → Is K H' v (.lst ((part m.rows goal b room).map Mnr.d)) → Q v H' := k
    refine wss_cons (ws_skip (EvT.is (evt_dniF hu (ev_v 2 h2) (ev_ixLc 0 (marks_ix (Nat.zero_le _)) (ev_v 4 h4))) (by unfold mkVal; rw [List.drop_zero, ha]; rfl)) fun H3 e3 => ?_)
    replace h0 := h0.mono e3
    replace h1 := h1.mono e3
    replace h2 := h2.mono e3
    replace h4 := h4.mono e3
    refine wss_cons (WS.of (ps_asg (pe_tup (pa_cons (pe_lst pa_nil) (pa_cons WE.pe pa_nil))) (pg2 5 6 rfl hN)) ?_)
    refine ⟨Nat.zero_le _, fun l hl => ?_⟩
    refine (ev_v 2 (h2.mono (Ext.new hl))) _ (Ext.refl _) _ fun v6 H4 e4 i6 => ?_
    refine ⟨by show 2 ≤ sizeLine; decide, fun tp htp => ?_⟩
    have eB : Ext H3 (upd H4 tp (.tup [.ref l, v6])) := (Ext.new hl).trans (e4.trans (Ext.new htp))
    have hl5 : upd H4 tp (.tup [.ref l, v6]) l = some (.lst []) := (Ext.new htp) _ _ (e4 _ _ upd_same)
    refine ⟨tp, _, rfl, .of upd_same, rfl, _, _, rfl, _, _, rfl, rfl, ?_⟩
    refine wss_cons (ws_for PassesOwn.never rfl (B := H3) (evi_enum T.f_enumerate (evb_v 1 h1) eB) (pg2 7 8 rfl hN)
      (fun i σ' H' => Ext H3 H' ∧ ∃ (xs : List Mnr) (r : Str) (w6 : V) (x7 x8 x9 x10 : Option V), σ' = [some v0, some v1, some v2, some v3, some v4, some (.ref l), some w6, x7, x8, x9, x10] ∧ Is K H' w6 (.str r) ∧ r ∈ m.rooms ∧ xs.length = i ∧ part m.rows goal b room = xs ++ part m.rows goal (b.drop i) r ∧ (ahead m.rows goal (b.drop i) r).isSome = true ∧ ∃ acc, H' l = some (.lst acc) ∧ IsAll K H' acc (xs.map Mnr.d))
      (fun i σ' H' h => h.1) (fun H5 e5 => ⟨eB.trans e5, [], room, v6, _, _, _, _, rfl, i6.mono ((Ext.new htp).trans e5), hr1, rfl, rfl, by rw [List.drop_zero, ha]; rfl, [], e5 _ _ hl5, .nil⟩) ?_ ?_)
    · rintro i d σ' H' v H5 hd ⟨e5, xs, r, w6, x7, x8, x9, x10, rfl, j6, hrm, hxs, hpart, hah, acc, hacc, hall⟩ e6 hv
      obtain ⟨dj, hdj, rfl⟩ := enumD_get hd
      obtain ⟨j, hj, rfl⟩ := map_get hdj
      have hil : i < b.length := (List.getElem?_eq_some_iff.mp hj).1
      have hdrop : b.drop i = j :: b.drop (i + 1) := by
        obtain ⟨q1, q2⟩ := List.getElem?_eq_some_iff.mp hj
        rw [List.drop_eq_getElem_cons q1, q2]
      refine gTup2 hv fun w7 w8 i7 i8 => ?_
      rw [hdrop] at hah hpart
      obtain ⟨x, lrest, mk, hmk, hl1, hxm, hx1, hx2, hx3, hx4⟩ := part_step hah
      have e56 := e5.trans e6
      have few := wm.few
      have rw_ : IsWord r := wm.word r hrm
      have jw : IsWord j := wb.word j (List.mem_of_getElem? hj)
      have hl0 : H3 l = none := hl
      refine wss_cons (ws_lcS 9 (B := H3) (l := m.rows) (E := Mnr.d) (own := [("manner", 10)]) (g := gName 10) (fun x => decide (x.room = r) && decide (x.job = j)) hN (blkOk_by (by kernel_rfl)) (evs_list (evb_rows T (evb_v 0 h0) e56) e56) e56 (Nat.le_trans few (by decide)) (fun _ _ _ _ _ => pgn 10 hN) gm_name ?_ fun v9 H6 e7 h9 => ?_)
      · intro y hy v10 H6 e7 i10
        have wy := wm.rowW y hy
        have i10' : Is K H6 v10 (.tup [.str y.room, .str y.job, .str y.other, y.eff.d]) := i10.mono e7
        have j6' : ∀ {H6 : Hp}, Is K H6 w6 (.str r) := by intro H6; cases j6; exact .str _
        have i8' : ∀ {H6 : Hp}, Is K H6 w8 (.str j) := by intro H6; cases i8; exact .str _
        refine ⟨rfl, rfl, fun _ _ _ _ _ => ?_, fun _ _ _ _ _ _ H7 e8 Q q => we_v 10 q⟩
        exact evt_eqPair hu (Ev.is (ev_cutH (hi := 2) (xs := [.str y.room, .str y.job, .str y.other, y.eff.d]) (ev_v 10 i10') ev_int (by show 2 < 4; decide)) rfl) (ev_tup (eva_cons (ev_v 6 j6') (eva_cons (ev_v 8 i8') eva_nil)) (by show 2 ≤ 100000; decide)) wy.room wy.job rw_ jw
      · have e57 := e56.trans e7
        have hacc6 : H6 l = some (.lst acc) := (e6.trans e7) _ _ hacc
        have hal : acc.length = i := by have := hall.length; rw [List.length_map, hxs] at this; exact this
        have nd : ∀ y, y ∈ m.rows.filter (fun x => decide (x.room = r) && decide (x.job = j)) → y ∈ m.rows := fun y hy => (List.mem_filter.mp hy).1
        refine wss_cons (ws_append (we_v 5 ⟨l, acc, rfl, hacc6, by omega, ?_⟩))
        have i7' : ∀ {H6 : Hp}, Is K H6 w7 (.int (i : Nat)) := by intro H6; cases i7; exact .int _
        have j6' : ∀ {H6 : Hp}, Is K H6 w6 (.str r) := by intro H6; cases j6; exact .str _
        refine (ev_ixLc 0 (ds := (x :: lrest).map Mnr.d) (d := x.d) rfl ?_) _ (Ext.refl _) _ fun vx H7 e8 hx => ?_
        · rw [← hl1]
          refine ev_lcS (B := H6) (own := [("manner", 10)]) (g := gName 10) (keepB (ahead m.rows goal (b.drop (i + 1))) mk) hN (blkOk_by (by kernel_rfl)) (evs_list (evb_v 9 h9) (Ext.refl _)) (Ext.refl _) (Nat.le_trans (List.length_filter_le ..) (Nat.le_trans few (by decide))) (fun _ _ _ _ _ => pgn 10 hN) gm_name ?_
          intro y hy v10 H7 e8 i10
          refine ⟨rfl, rfl, fun _ _ _ _ _ => ?_, fun _ _ _ _ _ _ H7 e8 Q q => we_v 10 q⟩
          have h4' := h4.mono (e57.trans e8)
          refine evt_val (ev_call (kp_keeps_mark T) (hr.mono (by decide)) (eva_cons (ev_v 10 (i10.mono e8)) (eva_cons (ev_ixL (j := i + 1) (marks_ix (by omega)) (ev_v 4 h4') (Ev.is (ev_add (ev_v 7 i7') ev_int) (by push_cast; rfl))) (eva_cons (ev_dgetF (v := .str (mkS mk)) (d := mkD mk) hu (ev_ixL (j := i) (marks_ix (by omega)) (ev_v 4 h4') (ev_v 7 i7')) (ev_v 6 j6') (by unfold mkVal; rw [hdrop, hmk]; rfl) (fun _ => .str _)) eva_nil))) ⟨y, _, mk, rfl, rfl⟩)
        · have ha7 := e8 _ _ hacc6
          refine ⟨ha7, ?_⟩
          have kp : ExtN H7 (upd H7 l (.lst (acc ++ [vx]))) := (Ext.refl H7).n.upd ha7
          have e37 : Ext H3 (upd H7 l (.lst (acc ++ [vx]))) := (e57.trans e8).mut hl0
          have all8 : IsAll K (upd H7 l (.lst (acc ++ [vx]))) (acc ++ [vx]) ((xs ++ [x]).map Mnr.d) := by
            rw [List.map_append]
            exact IsAll.append ((hall.mono ((e6.trans e7).trans e8)).keep kp (noLsts_all fun d hd => by obtain ⟨y, _, rfl⟩ := List.mem_map.mp hd; exact noLst_mnr y)) (.cons (hx.keep kp (noLst_mnr x)) .nil)
          have cur : Is K (upd H7 l (.lst (acc ++ [vx]))) (.ref l) (.lst (xs.map Mnr.d ++ [x.d])) := by
            have := all8
            rw [List.map_append] at this
            exact .lst upd_same this
          refine wss_one (ws_set hN (i := 6) (ev_ixTc 2 (d := .str x.other) (ds := [.str x.room, .str x.job, .str x.other, x.eff.d]) rfl (ev_ixLast (d := x.d) (ev_v 5 cur) (ev_neg ev_int))) fun u6 H8 e9 k6 => ?_)
          refine ⟨e37.trans e9, xs ++ [x], x.other, u6, _, _, _, _, rfl, k6, (wm.rowIn x hxm).2, by rw [List.length_append, hxs]; rfl, ?_, hx3, acc ++ [vx], e9 _ _ upd_same, all8.mono e9⟩
          rw [hpart, hx4, List.append_assoc]; rfl
    · rintro σ' H' ⟨e5, xs, r, w6, x7, x8, x9, x10, rfl, j6, hrm, hxs, hpart, hah, acc, hacc, hall⟩
      have en : (enumD (b.map D.str)).length = b.length := by rw [enumD_length, List.length_map]
      rw [en, List.drop_length] at hpart
      have : part m.rows goal b room = xs := by rw [hpart]; show xs ++ [] = xs; rw [List.append_nil]
      rw [this] at k
      exact wss_one (ws_ret (ev_v 5 (.lst hacc hall)) fun v H6 e6 hv => k v H6 (e12.trans (e3.trans (e5.trans e6))) hv)
end
end Wb
/-! is_best_part. -/
namespace Wb
open PySem PySem.Spec L2
theorem room65 {k : Nat} {A : Around} (r : Room k A) : A.units + 65 < cLine := by have := r.un; omega
def markR (a : Wb.Mk) (xs : List Mnr) : Wb.Mk := xs.foldl (fun a x => later a x.eff.mk) a
theorem markR_snoc {a : Wb.Mk} {xs : List Mnr} {x : Mnr} : markR a (xs ++ [x]) = later (markR a xs) x.eff.mk := by unfold markR; rw [List.foldl_append]; rfl
theorem markR_later : ∀ (xs : List Mnr) (a : Wb.Mk), markR a xs = later a (markR .free xs)
  | [], a => (later_free a).symm
  | x :: xs, a => by
    show markR (later a x.eff.mk) xs = later a (markR (later .free x.eff.mk) xs)
    rw [markR_later xs (later a x.eff.mk), markR_later xs (later .free x.eff.mk), free_later, later_assoc]
theorem part_mark {rows : List Mnr} {goal : Str} : ∀ (b : List Str) (r : Str) (mk : Wb.Mk), ahead rows goal b r = some mk → markR .free (part rows goal b r) = mk
  | [], r, mk, h => by
    rw [ahead] at h
    by_cases c : r = goal
    · simp only [if_pos c] at h; cases h; rfl
    · simp only [if_neg c] at h; cases h
  | j :: b, r, mk, h => by
    obtain ⟨x, l, mk', h1, h2, hx, h3, h4, h5, h6⟩ := part_step (rows := rows) (goal := goal) (j := j) (r := r) (b := b) (by rw [h]; rfl)
    rw [h] at h1; cases h1
    obtain ⟨g, hg⟩ := Option.isSome_iff_exists.mp h5
    have hk : x ∈ (stepsOf rows r j).filter (keepB (ahead rows goal b) mk) := by rw [h2]; exact .head _
    have hk := (List.mem_filter.mp hk).2
    unfold keepB at hk
    rw [hg] at hk
    rw [h6]
    show markR (later .free x.eff.mk) _ = mk
    rw [free_later, markR_later, part_mark b x.other g hg]
    exact of_decide_eq_true hk
section
variable {P : Program} {w : World} {K : PySem.W.Frag} {mg : Str → Option Value} {base : Heap}
theorem pys_mnr (rows : List Mnr) : pys (rows.map Mnr.d) = rows.map Mnr.py := by
  rw [pys_map]
  exact List.map_congr_left fun x _ => py_mnr x
theorem r2_niMnr {x : Mnr} {rows : List Mnr} (hx : WfX x) (hr : ∀ y ∈ rows, WfX y) : R2D K (rNotInD K) x.d (.lst (rows.map Mnr.d)) (.bl (!decide (x ∈ rows))) := fun u v H hu hv Q q => by
  refine ⟨x.py, rows.map Mnr.py, ?_, ?_, ?_, ?_, ?_⟩
  · rw [← py_mnr]; exact hu.dp (plain_mnr x)
  · have h := hv.dp (by rw [plainD]; exact plain_map fun y _ => plain_mnr y)
    rw [py, pys_mnr] at h
    exact h
  · exact (shp_mnr hx).ok (by decide)
  · exact (Shp.lst (k := 2) fun d hd => by obtain ⟨y, hy, rfl⟩ := List.mem_map.mp hd; exact shp_mnr (hr y hy)).ok (by decide)
  · have e : ((rows.map Mnr.py).any fun z => PyData.eqv z x.py) = decide (x ∈ rows) := by
      rw [List.any_map]
      by_cases c : x ∈ rows
      · rw [decide_eq_true c, List.any_eq_true]
        exact ⟨x, c, by show PyData.eqv x.py x.py = true; rw [eqv_mnr, decide_eq_true rfl]⟩
      · rw [decide_eq_false c, List.any_eq_false]
        intro y hy z
        have z : PyData.eqv y.py x.py = true := z
        rw [eqv_mnr] at z
        exact c (of_decide_eq_true z ▸ hy)
    rw [e]
    exact q _ H (Ext.refl _) (.bl _)
theorem evt_niMnr {X : Cx} {σ : L2.St} {H : Hp} {a b : Expr} {pos : Pos} {x : Mnr} {rows : List Mnr} (hu : X.A.units + 65 < cLine) (h : Ev X σ H a x.d) (h2 : Ev X σ H b (.lst (rows.map Mnr.d))) (hx : WfX x) (hr : ∀ y ∈ rows, WfX y) (hm : behindInMarks .NotIn b = false := by rfl) : EvT X σ H (.Compare a [.NotIn] [b] pos) (!decide (x ∈ rows)) :=
  evt_cmp (op_notInD hu) (r2_niMnr hx hr) h h2 hm
def Rbest_part : List D → D → Prop := fun ds d => ∃ (m : Mn) (b : List Str) (r g : Str), WfM m ∧ WfB b ∧ r ∈ m.rooms ∧ g ∈ m.rooms ∧ (ahead m.rows g b r).isSome = true ∧ ds = [.man m, bookD b, .str r, .str g, .lst ((part m.rows g b r).map Mnr.d)] ∧ d = .bl true
abbrev N_is_best_part : List Str := ["manual", "book", "room", "other", "value", "mark", "here", "job", "manner"]
theorem kp_is_best_part (T : Top w K mg) : Kp P w K mg base "is_best_part" ["manual", "book", "room", "other", "value"] [] 5 (spD K Rbest_part) := by
  have hN : N_is_best_part.Nodup := by decide +kernel
  refine kp_d (N := N_is_best_part) T 41 rfl ⟨rfl, rfl, rfl, hN, rfl, by decide +kernel, by decide +kernel⟩ (fun _ _ _ _ _ _ us hl => match us, hl with | [_, _, _, _, _], _ => rfl) (fun ds d ⟨_, _, _, _, _, _, _, _, _, h, _⟩ => by rw [h]; rfl) ?_
  rintro cdv A outer s H vs ds d Q E hr hv ⟨m, b, room, goal, wm, wb, hr1, hg1, hs, rfl, rfl⟩ k
  obtain ⟨v0, v1, v2, v3, v4, rfl, h0, h1, h2, h3, h4⟩ := isAll5 hv
  have hu := hr.units
  have hb := wb.small
  obtain ⟨mk, hmk⟩ := Option.isSome_iff_exists.mp hs
  have plen := part_len b room hs
  refine wss_cons (ws_expr (ev_call (kp_check_part T) (hr.mono (by decide)) (eva_cons (ev_v 0 h0) (eva_cons (ev_v 1 h1) (eva_cons (ev_v 2 h2) (eva_cons (ev_v 3 h3) eva_nil)))) ⟨m, b, room, goal, wm, wb, hr1, hg1, rfl, rfl⟩) fun H1 e1 => ?_)
  replace h0 := h0.mono e1
  replace h1 := h1.mono e1
  replace h2 := h2.mono e1
  replace h3 := h3.mono e1
  replace h4 := h4.mono e1
  refine wss_cons (ws_skip (EvW.t ?_) fun H2 e2 => ?_)
  · refine EvW.is (evw_or (c := false) (d := false) (evt_not (c := true) (evt_val (ev_isi T.f_isinstance T.f_list PyProof.Rows.boot_list (ev_v 4 h4) k_ll))) fun _ => ?_) rfl
    exact evw_or1 (EvT.is (evt_neI (ev_lenL T.f_len (ev_v 4 h4)) (ev_lenL T.f_len (ev_v 1 h1))) (by rw [List.length_map, List.length_map, plen, decide_eq_true rfl]; rfl))
  replace h0 := h0.mono e2
  replace h1 := h1.mono e2
  replace h2 := h2.mono e2
  replace h3 := h3.mono e2
  replace h4 := h4.mono e2
  refine wss_cons (ws_par 5 6 hN (ev_str (x := "free")) (ev_v 2 h2) fun v5 v6 H3 e3 i5 i6 => ?_)
  have zl : (zipD (b.map D.str) ((part m.rows goal b room).map Mnr.d)).length = b.length := by rw [zipD_length, List.length_map, List.length_map, plen]; omega
  have hz : EvI (Cd P w K mg base N_is_best_part "is_best_part" s_is_best_part cdv A outer s H E) [some v0, some v1, some v2, some v3, some v4, some v5, some v6, none, none] H3 (match defBody s_is_best_part with | [_, _, _, .For tg _ _ _ _, _] => tg | _ => .Constant .none 0 ⟨0, 0, 0, 0⟩) (match defBody s_is_best_part with | [_, _, _, .For _ it _ _ _, _] => it | _ => .Constant .none 0 ⟨0, 0, 0, 0⟩) (zipD (b.map D.str) ((part m.rows goal b room).map Mnr.d)) :=
    evi_zipS T.f_zip (ev_v 1 (h1.mono e3)) (ev_v 4 (h4.mono e3)) (by rw [List.length_map, List.length_map, plen])
  refine wss_cons (ws_forI PassesOwn.never rfl hz (pg2 7 8 rfl hN) (fun B i σ' H' => Ext H3 H' ∧ ∃ (pre : List Mnr) (r : Str) (w5 w6 : V) (x7 x8 : Option V), σ' = [some v0, some v1, some v2, some v3, some v4, some w5, some w6, x7, x8] ∧ Is K H' w5 (mkD (markR .free pre)) ∧ Is K H' w6 (.str r) ∧ r ∈ m.rooms ∧ pre.length = i ∧ part m.rows goal b room = pre ++ part m.rows goal (b.drop i) r ∧ (ahead m.rows goal (b.drop i) r).isSome = true)
    (fun B H4 e4 e5 => ⟨e4.trans e5, [], room, _, _, _, _, rfl, i5.mono (e4.trans e5), i6.mono (e4.trans e5), hr1, rfl, rfl, by rw [List.drop_zero]; exact hs⟩) ?_ ?_)
  · rintro B i d σ' H' v H5 hd e4 ⟨e5, pre, r, w5, w6, x7, x8, rfl, j5, j6, hrm, hpre, hpart, hah⟩ e6 hv
    obtain ⟨dj, dx, hdj, hdx, rfl⟩ := zipD_get hd
    obtain ⟨j, hj, rfl⟩ := map_get hdj
    obtain ⟨x, hx, rfl⟩ := map_get hdx
    have hdrop : b.drop i = j :: b.drop (i + 1) := by
      obtain ⟨q1, q2⟩ := List.getElem?_eq_some_iff.mp hj
      rw [List.drop_eq_getElem_cons q1, q2]
    rw [hdrop] at hah hpart
    obtain ⟨x', lrest, mk', hmk', hl1, hxm, hx1, hx2, hx3, hx4⟩ := part_step hah
    have hxx : x = x' := by
      rw [hpart, hx4, List.getElem?_append_right (by omega), hpre, Nat.sub_self] at hx
      exact (Option.some.inj hx).symm
    subst hxx
    have wx := wm.rowW x hxm
    have rw_ : IsWord r := wm.word r hrm
    have jw : IsWord j := wb.word j (List.mem_of_getElem? hj)
    refine gTup2 hv fun w7 w8 i7 i8 => ?_
    replace j5 := j5.mono e6
    replace j6 := j6.mono e6
    have e56 := e5.trans e6
    have i8' : Is K H5 w8 (.tup [.str x.room, .str x.job, .str x.other, x.eff.d]) := i8
    refine wss_cons (ws_skip (EvW.t ?_) fun H6 e7 => ?_)
    · refine EvW.is (evw_or (c := false) (d := false) (evt_not (c := true) (evt_val (ev_call (kp_is_manner T) (hr.mono (by decide)) (eva_cons (ev_v 8 i8) eva_nil) ⟨x, wx, rfl, rfl⟩))) fun _ => ?_) rfl
      refine EvW.is (evw_or (c := false) (d := false) (EvT.is (evt_niMnr (room65 hr) (ev_v 8 i8) (ev_rows T (ev_v 0 (h0.mono (e3.trans e56)))) wx wm.rowW) (by rw [decide_eq_true hxm]; rfl)) fun _ => ?_) rfl
      exact evw_or1 (EvT.is (evt_nePair hu (Ev.is (ev_cutH (hi := 2) (xs := [.str x.room, .str x.job, .str x.other, x.eff.d]) (ev_v 8 i8') ev_int (by show 2 < 4; decide)) rfl) (ev_tup (eva_cons (ev_v 6 j6) (eva_cons (ev_v 7 i7) eva_nil)) (by show 2 ≤ 100000; decide)) wx.room wx.job rw_ jw) (by rw [hx1, hx2, decide_eq_true rfl, decide_eq_true rfl]; rfl))
    · refine wss_one (ws_par 5 6 hN (ev_call (kp_later T) (hr.mono (by decide)) (eva_cons (ev_v 5 (j5.mono e7)) (eva_cons (ev_call (kp_effect_mark T) (hr.mono (by decide)) (eva_cons (ev_ixTc 3 (d := x.eff.d) rfl (ev_v 8 (i8'.mono e7))) eva_nil) ⟨_, rfl, rfl⟩) eva_nil)) ⟨_, _, rfl, rfl⟩) (ev_ixTc 2 (d := .str x.other) rfl (ev_v 8 (i8'.mono e7))) fun u5 u6 H7 e8 k5 k6 => ?_)
      refine ⟨e4.trans (e6.trans (e7.trans e8)), e56.trans (e7.trans e8), pre ++ [x], x.other, u5, u6, _, _, rfl, by rw [markR_snoc]; exact k5, k6, (wm.rowIn x hxm).2, by rw [List.length_append, hpre]; rfl, ?_, hx3⟩
      rw [hpart, hx4, List.append_assoc]; rfl
  · rintro B σ' H' e4 ⟨e5, pre, r, w5, w6, x7, x8, rfl, j5, j6, hrm, hpre, hpart, hah⟩
    rw [zl, List.drop_length] at hpart hah
    have hr0 : r = goal := by
      rw [ahead] at hah
      by_cases c : r = goal
      · exact c
      · simp only [if_neg c] at hah; cases hah
    have hp : pre = part m.rows goal b room := by rw [hpart]; show pre = pre ++ []; rw [List.append_nil]
    have hm : markR .free pre = mk := by rw [hp]; exact part_mark b room mk hmk
    rw [hm] at j5
    have e35 := e3.trans e5
    refine wss_one (ws_ret (Ev.is (ev_and (c := true) (d := true) (Ev.is (ev_eqS (ev_v 6 j6) (ev_v 3 (h3.mono e35))) (by rw [decide_eq_true hr0])) fun _ => ev_one (Ev.is (ev_eqS (ev_v 5 j5) (ev_dgetF (v := .str (mkS mk)) (d := .str (mkS mk)) hu (ev_ixLc 0 (marks_ix (Nat.zero_le _)) (ev_call (kp_marks_ahead T) (hr.mono (by decide)) (eva_cons (ev_v 0 (h0.mono e35)) (eva_cons (ev_v 1 (h1.mono e35)) (eva_cons (ev_v 3 (h3.mono e35)) eva_nil))) ⟨m, b, goal, wm, hb, rfl, rfl⟩)) (ev_v 2 (h2.mono e35)) (by unfold mkVal; rw [List.drop_zero, hmk]; rfl) (fun _ => .str _))) (by rw [decide_eq_true rfl]))) rfl) fun v H6 e6 hv => k v H6 (e1.trans (e2.trans (e35.trans e6))) hv)
end
end Wb
/-! set(list): any walk; sets of texts that can be walked. -/
namespace Wb
open PySem PySem.Spec L2 PyProof.Rows PySem.Froz

abbrev newSet (w : World) : Obj := { cls := .type "set", dict := none, data := .set #[] 0 (.fresh 0 0 (!w.params.followText "set-order")) }

/-- what a walk of set(list) keeps: S the set, i the items gone -/
structure SetWalk (P : Program) (w : World) (B : Around) (h0 : Heap) (items : Array Value) (J : Addr → Nat → Heap → Prop) : Prop where
  new : ∀ S h, h0.get? S = none → (∀ b o, h0.get? b = some o → h.get? b = some o) → h.get? S = some (newSet w) → J S 0 h
  keep : ∀ S i h h', J S i h → (∀ o, h.get? S = some o → h'.get? S = some o) → (∀ b o, h0.get? b = some o → h'.get? b = some o) → J S i h'
  add : ∀ S i v (s : Shared) (Q : Bool → Shared → Prop) (E : Value → Shared → Prop), h0.get? S = none → items[i]? = some v → J S i s.heap → (∀ b o, h0.get? b = some o → s.heap.get? b = some o) →
    (∀ b h' tk, s.toks ≤ tk → Heap.SameBut S s.heap h' → J S (i + 1) h' → Q b { s with heap := h', toks := tk }) → wpAny (model P w) B (setAdd S v) Q E s

section
variable {P : Program} {w : World} {A : Around} {E : Value → Shared → Prop} {s : Shared}
theorem none_from {h : Heap} {b : Addr} (hb : h.objs.size ≤ b) : h.get? b = none := by
  cases q : h.get? b with
  | none => rfl
  | some o => exact absurd (Nat.lt_of_lt_of_le (Heap.lt_size q) hb) (Nat.lt_irrefl _)

theorem update_any {I : Addr} {fp wr : List Addr} {G : Array GenState → Array GenState → Prop} {n : Nat} {St : Nat → Shared → Prop} {R : Result → Shared → Prop} {h0 : Heap} {items : Array Value} {J : Addr → Nat → Heap → Prop}
    (W : WalksS P w A.in1 I fp wr G n (fun i v => items[i]? = some v) St) (K : SetWalk P w A.in1 h0 items J) (S : Addr) (hSf : S ∉ fp) (hS0 : h0.get? S = none) (hw0 : ∀ b ∈ wr, h0.get? b = none) :
    ∀ (k i : Nat) (s : Shared), n - i = k → i ≤ n → St i s → (∀ b o, h0.get? b = some o → s.heap.get? b = some o) → J S i s.heap →
      (∀ s', Moved (S :: wr) G s s' → J S n s'.heap → (∀ b o, h0.get? b = some o → s'.heap.get? b = some o) → R (.ok (.ret .none)) s') →
      codeAny (model P w) A (.builtin "set.update.loop" ⟨[.ref S, .ref I], []⟩) R s := by
  have hSw : S ∉ wr := fun h => hSf (W.sub _ h)
  have up : ∀ {s s' : Shared}, Moved wr G s s' → (∀ b o, h0.get? b = some o → s.heap.get? b = some o) → ∀ b o, h0.get? b = some o → s'.heap.get? b = some o := fun m q b o e =>
    m.heap b o (fun hb => by rw [hw0 b hb] at e; cases e) (q b o e)
  intro k
  induction k with
  | zero =>
    intro i s hk hi hst q0 hJ hR
    obtain rfl : i = n := by omega
    refine codeAny_builtin F.entry_set_update_loop ?_
    rw [Around.under_plainId F.plain_set_update_loop _]
    show wpAny _ A.in1 (pyNext (.ref I) >>= _) _ _ s
    refine wpAny_bind (W.done s _ _ hst fun s' m => ?_)
    show wpAny _ A.in1 (ret Value.none) _ _ s'
    exact wpAny_pure (hR s' (m.mono fun b hb => List.mem_cons_of_mem _ hb) (K.keep S _ _ _ hJ (fun o e => m.heap S o hSw e) (up m q0)) (up m q0))
  | succ k ih =>
    intro i s hk hi hst q0 hJ hR
    have hlt : i < n := by omega
    refine codeAny_builtin F.entry_set_update_loop ?_
    rw [Around.under_plainId F.plain_set_update_loop _]
    show wpAny _ A.in1 (pyNext (.ref I) >>= _) _ _ s
    refine wpAny_bind (W.item i s _ _ hlt hst fun v s' hv hst' m => ?_)
    have q1 := up m q0
    show wpAny _ A.in1 (holding [v] (setAdd S v) >>= _) _ _ s'
    refine wpAny_bind (wpAny_holding ?_)
    refine K.add S i v s' _ _ hS0 hv (K.keep S _ _ _ hJ (fun o e => m.heap S o hSw e) q1) q1 fun b h' tk htk sb hJ' => ?_
    have q2 : ∀ b o, h0.get? b = some o → h'.get? b = some o := fun b o e => (sb.2 b (fun z => by rw [z, hS0] at e; cases e)).trans (q1 b o e)
    refine wpAny_pure ⟨plainId_quiet F.plain_set_update_loop _, ih (i + 1) _ (by omega) hlt (W.frame _ s' _ _ hst' htk fun b hb o e => ?_) q2 hJ' fun s'' m'' hJ'' q'' => ?_⟩
    · rw [sb.2 b (fun h : b = S => hSf (by rw [← h]; exact hb))]; exact e
    · refine hR s'' (Moved.trans W.gtrans ((m.mono fun b hb => List.mem_cons_of_mem _ hb).then_heap htk fun b o hb e => ?_) m'') hJ'' q''
      rw [sb.2 b (fun h : b = S => hb (by rw [h]; exact List.mem_cons_self))]; exact e

/-- set(xs) -/
theorem set_any {l : Addr} {items : Array Value} {J : Addr → Nat → Heap → Prop} {Q : Value → Shared → Prop} (hh : A.handled = none) (hl : s.heap.IsList l items) (K : SetWalk P w A.in1.in1.in1 s.heap items J)
    (h : ∀ (h' : Heap) (tk : Nat), J s.heap.objs.size items.size h' → (∀ b o, s.heap.get? b = some o → h'.get? b = some o) → Q (.ref s.heap.objs.size) { s with heap := h', toks := tk }) :
    wpAny (model P w) A (call (.type "set") [.ref l]) Q E s := by
  obtain ⟨c, tl, hmro⟩ := F.called_set.mro
  have hmade := F.called_set.made
  have hsub := F.called_set.sub
  refine wpAny_call (codeAny_of_tree ?_)
  show wpAny _ _ (callAny (.type "set") _) _ _ _
  refine wpAny_pure ⟨Code.quiet_builtin _ (by decide +kernel), codeAny_builtin F.entry_type_call ?_⟩
  rw [Around.under_plain (weight_type_call_type "set" [.ref l] []) rfl]
  have h1 := F.called_set.notType
  have h2 := F.called_set.canCreate
  have hct := F.typeCall_set_1 (.ref l)
  repeat (any_goals (first | assumption | wp_step))
  refine codeAny_mono (code_set_led1 (.ref l) (E := E) (Q₁ := fun obj s₁ => obj = .ref s.heap.objs.size ∧ s₁ = { s with heap := s.heap.push (newSet w) }) ⟨rfl, rfl⟩) fun r s₁ hr => ?_
  cases r with
  | error e => exact hr
  | ok fl =>
    cases fl with
    | ret obj =>
      obtain ⟨rfl, rfl⟩ := hr
      have hS : (s.heap.push (newSet w)).get? s.heap.objs.size = some (newSet w) := Heap.get?_push_size _ rfl
      have hT : Shared.TypeIs { s with heap := s.heap.push (newSet w) } (.ref s.heap.objs.size) "set" := ⟨_, hS, rfl⟩
      have hli := F.called_set.init.lookup
      have hbi := F.called_set.init.bind (.ref s.heap.objs.size)
      repeat (any_goals (first | assumption | wp_step))
      refine codeAny_mono (codeAny_call_builtin (R := wants (fun r s₂ => r = .none ∧ ∃ h' tk, s₂ = { s with heap := h', toks := tk } ∧ J s.heap.objs.size items.size h' ∧
          (∀ b o, s.heap.get? b = some o → h'.get? b = some o)) E) F.called_set.init.plain F.entry_set_init (check_set_init_1 hT ?_)) fun r₂ s₂ hr₂ => ?_
      · obtain ⟨ol, hol, hcl, nl, hdl⟩ := hl
        obtain ⟨ocls, odict, odata, oslots⟩ := ol
        simp only at hcl hdl
        subst hcl; subst hdl
        have hol' : (s.heap.push (newSet w)).get? l = some { cls := .type "list", dict := odict, data := .seq items nl, slots := oslots } := Heap.get?_push_of_some _ hol
        have hsls := F.sub_list_set
        have hslf := F.sub_list_frozenset
        have hne : (Value.type "list" == Value.type "dict") = false := by decide
        have hl1 : (s.heap.push (newSet w)).IsList l items := ⟨_, hol', rfl, nl, rfl⟩
        unfold Builtin.«set.__init__» noKeywords Builtin.Frozenset.updateFrom
        generalize hPI : pyIter = PI
        wp_walk
        subst hPI
        refine wpAny_pyIter_list hl1 ?_
        refine wpAny_bind (wpAny_runValue ?_)
        have hlS : l < s.heap.objs.size := Heap.lt_size hol
        have hh3 : A.in1.in1.in1.handled = none := by simp [hh]
        have hneI : l ≠ (s.heap.push (newSet w)).objs.size := by
          rw [Heap.size_push]; exact Nat.ne_of_lt (Nat.lt_succ_of_lt hlS)
        have hSf : s.heap.objs.size ∉ [(s.heap.push (newSet w)).objs.size, l] := by
          rw [Heap.size_push]; simp only [List.mem_cons, List.mem_singleton, List.not_mem_nil, or_false, not_or]
          exact ⟨Nat.ne_of_lt (Nat.lt_succ_self _), Nat.ne_of_gt hlS⟩
        refine update_any ((Walks.list hh3 _ l hneI items).toS) K s.heap.objs.size hSf (none_from (Nat.le_refl _)) (fun b hb => none_from (by
            rw [List.mem_singleton.mp hb, Heap.size_push]
            exact Nat.le_succ _)) (items.size - 0) 0 _ (by omega) (Nat.zero_le _)
          ⟨⟨_, Heap.get?_push_size _ rfl, rfl, rfl⟩, (hl1.push _)⟩ (fun b o e => Heap.get?_push_of_some _ (Heap.get?_push_of_some _ e)) ?_ ?_
        · exact K.new _ _ (none_from (Nat.le_refl _)) (fun b o e => Heap.get?_push_of_some _ (Heap.get?_push_of_some _ e)) (Heap.get?_push_of_some _ hS)
        · intro s' m hJ q
          obtain ⟨h', g2, d', tk', os'⟩ := s'
          have eg : g2 = s.gens := m.gens
          have ed : d' = s.drawn := m.drawn
          have eo : os' = s.os := m.os
          subst eg; subst ed; subst eo
          show wpAny _ _ _ _ _ _
          refine wpAny_pure ?_
          show wpAny _ _ (ret Value.none) _ _ _
          exact wpAny_pure ⟨rfl, h', tk', rfl, hJ, q⟩
      · cases r₂ with
        | error e => exact hr₂
        | ok fl₂ =>
          cases fl₂ with
          | ret r =>
            obtain ⟨rfl, h', tk, rfl, hJ, hk'⟩ := hr₂
            repeat (any_goals (first | assumption | wp_step))
            exact h _ _ hJ hk'
          | _ => exact hr₂.elim
    | _ => exact hr.elim

/-! ### sets of texts -/
structure SetS (P : Program) (w : World) (h : Heap) (a : Addr) (l : List Str) : Prop where
  ob : ∃ D, h.get? a = some (sObj "set" D) ∧ TxOk P w D l ∧ Ris D.2.2.place.toList ∧ (w.params.followText "set-order" = true ∨ D.2.2.led = true)
  nd : l.Nodup
theorem SetS.new {h : Heap} {a : Addr} (e : h.get? a = some (newSet w)) : SetS P w h a [] :=
  ⟨⟨(#[], 0, _), e, TxOk.nil rfl, List.Pairwise.nil, by
    show _ ∨ (!w.params.followText "set-order") = true
    cases w.params.followText "set-order"
    · exact .inr rfl
    · exact .inl rfl⟩, List.nodup_nil⟩
theorem SetS.at {h h' : Heap} {a : Addr} {l : List Str} (R : SetS P w h a l) (k : ∀ o, h.get? a = some o → h'.get? a = some o) : SetS P w h' a l := by
  obtain ⟨⟨D, e, r⟩, nd⟩ := R
  exact ⟨⟨D, k _ e, r⟩, nd⟩
theorem tail_ris {ep : Nat} {es : Array (Int × Value)} {t : SetTable} {wd : Bool} (r : Ris t.place.toList) : Ris (tailTx ep es t wd).2.2.place.toList := by
  unfold tailTx; split
  · exact relayAll_ris _ _ _
  · exact r
theorem tail_led {ep : Nat} {es : Array (Int × Value)} {t : SetTable} {wd : Bool} : (tailTx ep es t wd).2.2.led = t.led := by
  unfold tailTx; split
  · exact relayAll_led _ _ _
  · rfl
theorem addTx_ris {h : Int} {v : Value} {D : SD} (r : Ris D.2.2.place.toList) : Ris (addTx h v D).2.2.place.toList := by
  have r1 := layNew_ris D.2.2 D.1 h v r
  unfold addTx
  refine tail_ris ?_
  by_cases c : (layNew D.2.2 D.1 h v).2.1.plain = true
  · rw [if_pos c]; exact r1
  · rw [if_neg c]; exact r1
theorem addTx_led {h : Int} {v : Value} {D : SD} : (addTx h v D).2.2.led = D.2.2.led := by
  have r1 := layNew_led D.2.2 D.1 h v
  unfold addTx
  rw [tail_led]
  by_cases c : (layNew D.2.2 D.1 h v).2.1.plain = true
  · rw [if_pos c]; exact r1
  · rw [if_neg c]; exact r1
def addS (k : Str) (l : List Str) : List Str := if k ∈ l then l else k :: l
theorem setS_add {a : Addr} {l : List Str} {k : Str} {u : Tok} {Q : Bool → Shared → Prop} (R : SetS P w s.heap a l) (hb : l.length + 1 < scanBound)
    (hQ : ∀ b h' tk, s.toks ≤ tk → Heap.SameBut a s.heap h' → SetS P w h' a (addS k l) → Q b { s with heap := h', toks := tk }) : wpAny (model P w) A (setAdd a (.str k u)) Q E s := by
  obtain ⟨⟨D, e, ok, r, ld⟩, nd⟩ := R
  unfold setAdd
  refine wpAny_holding (wpAny_bind ((strKind P w).pyHash (k := k) (is_str k u) ?_))
  show wpAny _ _ (setAddHashed a (.str k u) (hashStr w k)) _ _ _
  unfold addS at hQ
  by_cases hk : k ∈ l
  · rw [if_pos hk] at hQ
    obtain ⟨es, ep, t⟩ := D
    have hd : (sObj "set" (es, ep, t)).data = .set es ep t := rfl
    have hf : t.fits es.size = true := ok.fit
    have hel : ElemsOf (strKind P w) es.toList := ok.el
    have hsz : es.size = l.length := ok.sz
    have hb0 : es.size < scanBound := by omega
    unfold setAddHashed setAddHashedIn
    refine wpAny_holding (wpAny_bind (wpAny_setState_of e hd hf ?_))
    dsimp only
    rw [byScan_of rfl hb0 hel]
    simp only [↓reduceIte]
    unfold setAddByScan
    refine wpAny_bind ?_
    refine wpAny_bind (wpAny_rule ?_)
    refine wpAny_bind (wpAny_setScan_of (knd := strKind P w) (k := k) (is_str k u) e hd hf hel ?_)
    cases hfi : List.findIdx? (fun e => (strKind P w).is k e.2) es.toList with
    | some j =>
      dsimp only
      exact wpAny_pure (wpAny_pure (hQ false s.heap _ (Nat.le_add_right _ _) (Heap.SameBut.refl a s.heap) ⟨⟨(es, ep, t), e, ok, r, ld⟩, nd⟩))
    | none =>
      exfalso
      obtain ⟨e', he, q⟩ := (ok.mem k).mp hk
      have c := List.findIdx?_eq_none_iff.mp hfi e' he
      rw [q] at c
      cases c
  · rw [if_neg hk] at hQ
    refine add_x (s := { s with toks := s.toks + 1 }) (l := l) e ok hk hb ?_
    have sb : Heap.SameBut a s.heap (s.heap.update a (fun _ => sObj "set" (addTx (hashStr w k) (.str k u) D))) := Heap.SameBut.update ..
    refine hQ true _ _ (Nat.le_add_right _ _) sb ⟨⟨_, get_upd _ e rfl, add_ok u ok, addTx_ris r, ld.imp id fun z => by rw [addTx_led]; exact z⟩, List.nodup_cons.mpr ⟨hk, nd⟩⟩
def addAllS (xs : List Str) : List Str := xs.foldl (fun l k => addS k l) []
theorem addS_mem {k j : Str} {l : List Str} : j ∈ addS k l ↔ j = k ∨ j ∈ l := by
  unfold addS; split
  · rename_i h; constructor
    · exact .inr
    · rintro (rfl | h') <;> assumption
  · exact List.mem_cons
theorem addS_len (k : Str) (l : List Str) : (addS k l).length ≤ l.length + 1 := by
  unfold addS; split
  · exact Nat.le_succ _
  · exact Nat.le_refl _
theorem foldS_mem {j : Str} : ∀ {xs l : List Str}, j ∈ xs.foldl (fun l k => addS k l) l ↔ j ∈ xs ∨ j ∈ l
  | [], l => by simp
  | x :: xs, l => by
    rw [List.foldl_cons, foldS_mem, addS_mem, List.mem_cons]
    constructor
    · rintro (h | h | h)
      · exact .inl (.inr h)
      · exact .inl (.inl h)
      · exact .inr h
    · rintro ((h | h) | h)
      · exact .inr (.inl h)
      · exact .inl h
      · exact .inr (.inr h)
theorem addAllS_mem {j : Str} {xs : List Str} : j ∈ addAllS xs ↔ j ∈ xs := by unfold addAllS; rw [foldS_mem]; simp
theorem foldS_nd : ∀ {xs l : List Str}, l.Nodup → (xs.foldl (fun l k => addS k l) l).Nodup
  | [], _, h => h
  | x :: xs, l, h => by
    rw [List.foldl_cons]
    refine foldS_nd ?_
    unfold addS; split
    · exact h
    · rename_i q; exact List.nodup_cons.mpr ⟨q, h⟩
theorem addAllS_nd {xs : List Str} : (addAllS xs).Nodup := foldS_nd List.nodup_nil
theorem foldS_len : ∀ {xs l : List Str}, (xs.foldl (fun l k => addS k l) l).length ≤ xs.length + l.length
  | [], _ => by simp
  | x :: xs, l => by
    have h1 := foldS_len (xs := xs) (l := addS x l)
    have h2 := addS_len x l
    rw [List.foldl_cons, List.length_cons]
    omega
theorem addAllS_len {xs : List Str} : (addAllS xs).length ≤ xs.length := foldS_len (l := [])
theorem addAllS_snoc {xs : List Str} {x : Str} : addAllS (xs ++ [x]) = addS x (addAllS xs) := by unfold addAllS; rw [List.foldl_append]; rfl
theorem foldS_full : ∀ {xs l : List Str}, xs.Nodup → (∀ x ∈ xs, x ∉ l) → (xs.foldl (fun l k => addS k l) l).length = xs.length + l.length
  | [], _, _, _ => by simp
  | x :: xs, l, nd, h => by
    have h1 : x ∉ l := h x (.head _)
    obtain ⟨n1, n2⟩ := List.nodup_cons.mp nd
    rw [List.foldl_cons, show addS x l = x :: l from if_neg h1, foldS_full n2, List.length_cons, List.length_cons]
    · omega
    · intro y hy hm
      rcases List.mem_cons.mp hm with rfl | hm
      · exact n1 hy
      · exact h y (.tail _ hy) hm
theorem addAllS_full {xs : List Str} (nd : xs.Nodup) : (addAllS xs).length = xs.length := by
  unfold addAllS; rw [foldS_full nd (fun _ _ h => by cases h)]; rfl

theorem set_strs {l : Addr} {items : Array Value} {xs : List Str} {Q : Value → Shared → Prop} (hh : A.handled = none) (hl : s.heap.IsList l items) (hi : Vals (xs.map V.str) items.toList) (hb : xs.length + 1 < scanBound)
    (h : ∀ (h' : Heap) (tk : Nat), SetS P w h' s.heap.objs.size (addAllS xs) → (∀ b o, s.heap.get? b = some o → h'.get? b = some o) → Q (.ref s.heap.objs.size) { s with heap := h', toks := tk }) :
    wpAny (model P w) A (call (.type "set") [.ref l]) Q E s := by
  have hsz : items.size = xs.length := by
    have q := hi.length
    rw [List.length_map, Array.length_toList] at q
    exact q.symm
  refine set_any (J := fun S i h => SetS P w h S (addAllS (xs.take i))) hh hl ⟨fun S h _ _ e => SetS.new e, fun S i h h' R k _ => R.at k, fun S i v s Q E _ hv R k hQ => ?_⟩ fun h' tk R k => h h' tk (by rw [hsz, List.take_length] at R; exact R) k
  have hv' : items.toList[i]? = some v := by rw [Array.getElem?_toList]; exact hv
  have hi1 : i < items.toList.length := (List.getElem?_eq_some_iff.mp hv').1
  have hi2 : i < xs.length := by rw [Array.length_toList, hsz] at hi1; exact hi1
  obtain ⟨u, hu, ru⟩ := hi.get (i := i) (x := .str xs[i]) (by rw [List.getElem?_map, List.getElem?_eq_getElem hi2]; rfl)
  rw [hv'] at hu
  cases hu
  obtain ⟨t, rfl⟩ := ru
  have e : xs.take (i + 1) = xs.take i ++ [xs[i]] := by rw [List.take_succ, List.getElem?_eq_getElem hi2]; rfl
  have hl2 := addAllS_len (xs := xs.take i)
  rw [List.length_take] at hl2
  exact setS_add R (by omega) fun b h' tk htk sb R' => hQ b h' tk htk sb (by rw [e, addAllS_snoc]; exact R')
end
end Wb
/-! sets of texts over the layer: set(list), sorted, len. -/
namespace Wb
open PySem PySem.Spec L2 PyProof.Rows PySem.Froz

section
variable {P : Program} {w : World} {A : Around} {E : Value → Shared → Prop} {s : Shared}
theorem perm_of_sub {α : Type} [DecidableEq α] : ∀ {l m : List α}, l.Nodup → (∀ x ∈ l, x ∈ m) → m.length ≤ l.length → m.Perm l
  | [], m, _, _, h => by
    cases m with
    | nil => exact .nil
    | cons y m => exact absurd h (Nat.not_succ_le_zero _)
  | x :: l, m, nd, hs, h => by
    obtain ⟨n1, n2⟩ := List.nodup_cons.mp nd
    have hx := hs x (.head _)
    have p := List.perm_cons_erase hx
    have hl := p.length_eq
    rw [List.length_cons] at hl h
    refine p.trans (List.Perm.cons x (perm_of_sub n2 (fun y hy => ?_) (by omega)))
    have hne : y ≠ x := fun e => n1 (e ▸ hy)
    exact (List.mem_erase_of_ne hne).mpr (hs y (.tail _ hy))
theorem strs_of : ∀ vs : List Value, (∀ v ∈ vs, ∃ k tk, v = Value.str k tk) → StrsAre vs (vs.map strOf)
  | [], _ => .nil
  | v :: vs, h => by
    obtain ⟨k, tk, rfl⟩ := h v (.head _)
    exact .cons k tk (strs_of vs fun u hu => h u (.tail _ hu))
theorem sorted_setS {a : Addr} {l : List Str} {Q : Value → Shared → Prop} (R : SetS P w s.heap a l) (hh : A.handled = none) (h64 : l.length < 64)
    (hQ : ∀ s' p (out : Array Value) (c : Nat) (ys : List Str), (∀ b o, s.heap.get? b = some o → s'.heap.get? b = some o) → s'.gens = s.gens → s'.os = s.os → s.heap.objs.size ≤ p →
      s'.heap.get? p = some (seqObj "list" out c) → StrsAre out.toList ys → ys.Perm l → sortedS ys = true → Q (.ref p) s') :
    wpAny (model P w) A (call (.builtin "sorted") [.ref a]) Q E s := by
  obtain ⟨⟨⟨es, ep, t⟩, ho, ok, hr, hl⟩, nd⟩ := R
  have hf : t.fits es.size = true := ok.fit
  have hsz : es.size = l.length := ok.sz
  have good : ∀ e ∈ es.toList, ∃ k tk, e.2 = Value.str k tk := fun e he => by
    obtain ⟨⟨k, hk, _⟩, _⟩ := ok.el e he
    have hk2 : Value.isStrOf k e.2 = true := hk
    cases hv : e.2 with
    | str x tk => exact ⟨x, tk, rfl⟩
    | _ => rw [hv] at hk2; cases hk2
  refine Calls.call_function_entry kind_sorted plain_sorted entry_sorted (args_sorted1 _) ?_
  unfold Builtin.«sorted»
  refine wpAny_bind (m := checkCount "sorted" 1 1 _) (wpAny_pure ?_)
  refine wpAny_bind (collect_set (A := A.in1) hh ⟨_, ho, rfl, rfl⟩ hf (by show es.size < 4096; omega) hr hl fun s1 vs k1 hz g1 o1 pm => ?_)
  have hvl : vs.length = l.length := by rw [pm.length_eq, List.length_map, Array.length_toList]; exact hsz
  have hS : StrsAre vs (vs.map strOf) := strs_of vs fun v hv => by
    obtain ⟨e, he, q⟩ := List.mem_map.mp (pm.mem_iff.mp hv)
    obtain ⟨k, tk, h1⟩ := good e he
    exact ⟨k, tk, by rw [← q]; exact h1⟩
  have pk : (vs.map strOf).Perm l := by
    have q := pm.map strOf
    refine q.trans ?_
    have hlen : ((es.toList.map (·.2)).map strOf).length = l.length := by rw [List.length_map, List.length_map, Array.length_toList]; exact hsz
    have hsub : ∀ x ∈ l, x ∈ (es.toList.map (·.2)).map strOf := fun x hx => by
      obtain ⟨e, he, z⟩ := (ok.mem x).mp hx
      obtain ⟨k, tk, h1⟩ := good e he
      have z2 : Value.isStrOf x e.2 = true := z
      rw [h1] at z2
      have hkx : k = x := by simpa [Value.isStrOf] using z2
      exact List.mem_map.mpr ⟨e.2, List.mem_map.mpr ⟨e, he, rfl⟩, by rw [h1, ← hkx]; rfl⟩
    exact perm_of_sub nd hsub (Nat.le_of_eq hlen)
  refine wpAny_bind (wpAny_newList ?_ (by rw [hvl, sizeLine_eq]; omega))
  have hoL : (s1.heap.push (seqObj "list" vs.toArray 0)).get? s1.heap.objs.size = some (seqObj "list" vs.toArray 0) := Heap.get?_push_size _ rfl
  refine wpAny_bind (wpAny_holding (wpAny_call_entry slot_list_sort ⟨_, hoL, rfl⟩ entry_list_sort (list_sort_treeK strKind_oneLt hoL hS.keysOf (fun v₁ v₂ rest e => keyKind_strs (by rw [← e]; exact hS)) (by rw [hvl]; exact h64) fun st' a1 a2 => ⟨_, rfl, ?_⟩) (args_list_sort _)))
  obtain ⟨ys, h1, h2, h3⟩ := sorted_out_str hS a1 a2
  obtain ⟨c, hc⟩ := sortedHeap_at (vs := vs) (out := (arrOf st').map (·.2)) hoL
  refine wpAny_pure ⟨_, rfl, hQ _ s1.heap.objs.size _ c ys (fun b u e => ?_) g1 o1 hz hc h1 (h2.trans pk) h3⟩
  have q := k1 b u e
  have hlt := Heap.lt_size q
  show (sortedHeap (s1.heap.push (seqObj "list" vs.toArray 0)) s1.heap.objs.size vs _).get? b = some u
  rw [sortedHeap_old (Nat.ne_of_lt hlt) (by rw [size_push']; exact Nat.lt_succ_of_lt hlt)]
  exact Heap.get?_push_of_some _ q
end

/-! ### over the layer -/
def SetSO (P : Program) (w : World) (a : Addr) (l : List Str) : HO := .ext fun h => SetS P w h a l
theorem setSO_new {P : Program} {w : World} {H : Hp} {h : Heap} {a : Addr} {l : List Str} (R : SetS P w h a l) : ObjOk P w H h a (SetSO P w a l) := by
  obtain ⟨⟨D, e, r⟩, nd⟩ := R
  refine ⟨⟨⟨D, e, r⟩, nd⟩, ⟨_, e⟩, fun h1 h2 p k => SetS.at p k⟩
section
variable {X : Cx}
theorem setSO_get {pins : List (Addr × Obj)} {σ : L2.St} {H : Hp} {s : Shared} {a : Addr} {l : List Str} (I : Inv X pins σ H s) (ha : H a = some (SetSO X.prog X.w a l)) : SetS X.prog X.w s.heap a l := (I.hok a _ ha).1
def rSetS (K : PySem.W.Frag) (P : Program) (w : World) : List V → Hp → VK → Prop := fun vs H Q => ∃ (l : Addr) (xs : List Str), vs = [V.ref l] ∧ SqL K H l (xs.map V.str) ∧ xs.length + 1 < scanBound ∧ ∀ a, H a = none → Q (.ref a) (upd H a (SetSO P w a (addAllS xs)))
theorem cr_setS (hc : X.calm = true) : CallR X (.type "set") (rSetS X.K X.prog X.w) := by
  intro pins s σ H vs us Q I r h
  obtain ⟨l, xs, rfl, hl, hb, q⟩ := h
  rw [Vals.ref1 r]
  obtain ⟨its, rv, pl, hz⟩ := I.list hl
  have hn : H s.heap.objs.size = none := I.hok.fresh (Nat.le_refl _)
  refine set_strs (P := X.prog) (w := X.w) (I.ok.hd hc) pl.isList (by simpa using rv) hb fun h' tk R k => ?_
  exact ⟨.ref s.heap.objs.size, upd H s.heap.objs.size (SetSO X.prog X.w s.heap.objs.size (addAllS xs)), I.laid (t' := tk) k (Nat.le_refl _) (setSO_new R), rfl, q _ hn⟩
def rSortSt (P : Program) (w : World) : List V → Hp → VK → Prop := fun vs H Q => ∃ (a : Addr) (l : List Str), vs = [V.ref a] ∧ H a = some (SetSO P w a l) ∧ l.length < 64 ∧ ∀ (ys : List Str) (p : Addr), ys.Perm l → sortedS ys = true → H p = none → Q (.ref p) (upd H p (.lst (ys.map V.str)))
theorem cr_sortSt (hc : X.calm = true) : CallR X (.builtin "sorted") (rSortSt X.prog X.w) := by
  intro pins s σ H vs us Q I r h
  obtain ⟨a, l, rfl, ha, h64, q⟩ := h
  rw [Vals.ref1 r]
  refine sorted_setS (setSO_get I ha) (I.ok.hd hc) h64 fun s' p out c ys k g o hp hg hS pm so => ?_
  have hlen : (ys.map V.str).length ≤ sizeLine := by rw [List.length_map, pm.length_eq, sizeLine_eq]; omega
  have hn : H p = none := I.hok.fresh hp
  have J : Inv X pins σ (upd H p (.lst (ys.map V.str))) { s with heap := s'.heap, gens := s'.gens, drawn := s'.drawn, toks := s'.toks } :=
    I.call (ch := []) (Un.laid k hp hn) (I.hok.laid k hp ⟨hlen, out.toList, c, vals_of_strs hS, hg⟩) (by rw [g]; exact I.bare) (fun _ z => nomatch z)
  have e : s' = { s with heap := s'.heap, gens := s'.gens, drawn := s'.drawn, toks := s'.toks } := by
    cases s'
    cases s
    cases o
    rfl
  rw [e]
  exact ⟨.ref p, _, J, rfl, q ys p pm so hn⟩
def rLenSt (P : Program) (w : World) : List V → Hp → VK → Prop := fun vs H Q => ∃ (a : Addr) (l : List Str), vs = [V.ref a] ∧ H a = some (SetSO P w a l) ∧ l.length < 10000 ∧ Q (.int (l.length : Nat)) H
theorem cr_lenSt : CallR X (.builtin "len") (rLenSt X.prog X.w) := by
  intro pins s σ H vs us Q I r h
  obtain ⟨a, l, rfl, ha, hb, q⟩ := h
  rw [Vals.ref1 r]
  obtain ⟨⟨⟨es, ep, t⟩, ho, ok, _⟩, _⟩ := setSO_get I ha
  have hn : es.size = l.length := ok.sz
  refine call_len_set ho ⟨rfl, rfl, rfl⟩ rfl ok.fit (by rw [hn]; omega) ⟨.int (l.length : Nat), H, I.tok _, ⟨_, by rw [hn]⟩, q⟩

variable {σ : L2.St} {H : Hp} {a e : Expr} {pos p : Pos}
/-- e comes to a set of the texts l -/
def EvSt (X : Cx) (σ : L2.St) (H : Hp) (e : Expr) (l : List Str) : Prop := ∀ H1, Ext H H1 → ∀ Q : VK, (∀ a H2, Ext H1 H2 → H2 a = some (SetSO X.prog X.w a l) → Q (.ref a) H2) → WE X e σ H1 Q
theorem evst_set {xs : List Str} (hm : X.mg "set" = none) (h : Ev X σ H e (.lst (xs.map D.str))) (hb : xs.length ≤ 1000) (hc : X.calm = true := by rfl) (hg : Gl X "set" := by rfl) (hs : noStar e = true := by rfl) : EvSt X σ H (.Call (.Name "set" p) [e] [] pos) (addAllS xs) :=
  fun H1 e1 Q q => WE.of (pe_callTy (cr_setS hc) hg hm PyProof.Rows.boot_set WA.pa (by decide) (by decide) (star_cons hs) rfl) (eva_cons h eva_nil hs H1 e1 _ fun vs H2 e2 hv => by
    cases hv with
    | cons hv ht =>
      cases ht
      cases hv with
      | @lst l vs _ hl hvs =>
        rw [isAll_strs hvs] at hl
        exact ⟨l, xs, rfl, .inl (.inl hl), by unfold scanBound; omega, fun a ha => q a _ (e2.trans (Ext.new ha)) upd_same⟩)
theorem ev_lenSt {l : List Str} (hm : X.mg "len" = none) (h : EvSt X σ H e l) (hl : l.length ≤ 1000) (hg : Gl X "len" := by rfl) (hs : noStar e = true := by rfl) : Ev X σ H (.Call (.Name "len" p) [e] [] pos) (.int (l.length : Nat)) :=
  fun H1 e1 Q q => WE.of (pe_callB cr_lenSt hg hm PySem.boot_len WA.pa (by decide) (by decide) (star_cons hs) rfl) (WA.of (pa_cons WE.pe WA.pa (star_cons hs)) (h H1 e1 _ fun a H2 e2 ha => WA.of pa_nil ⟨a, l, rfl, ha, by omega, q _ H2 e2 (.int _)⟩))
theorem we_sortSt {l : List Str} {Q : VK} (hm : X.mg "sorted" = none) (h : EvSt X σ H e l) (hl : l.length < 64) (q : ∀ v H2 (ys : List Str), Ext H H2 → ys.Perm l → sortedS ys = true → Is X.K H2 v (.lst (ys.map D.str)) → Q v H2) (hc : X.calm = true := by rfl) (hg : Gl X "sorted" := by rfl) (hs : noStar e = true := by rfl) : WE X (.Call (.Name "sorted" p) [e] [] pos) σ H Q :=
  WE.of (pe_callB (cr_sortSt hc) hg hm PyProof.Rows.boot_sorted WA.pa (by decide) (by decide) (star_cons hs) rfl) (WA.of (pa_cons WE.pe WA.pa (star_cons hs)) (h H (Ext.refl _) _ fun a H2 e2 ha => WA.of pa_nil ⟨a, l, rfl, ha, hl, fun ys p pm so hp => q _ _ ys (e2.trans (Ext.new hp)) pm so (.lst upd_same (isAll_ofStrs ys))⟩))
theorem we_sortS {l : List Str} {Q : VK} (hm : X.mg "sorted" = none) (h : Ev X σ H e (.lst (l.map D.str))) (hl : l.length < 64) (q : ∀ v H2 (ys : List Str), Ext H H2 → ys.Perm l → sortedS ys = true → Is X.K H2 v (.lst (ys.map D.str)) → Q v H2) (hg : Gl X "sorted" := by rfl) (hs : noStar e = true := by rfl) : WE X (.Call (.Name "sorted" p) [e] [] pos) σ H Q :=
  WE.of (pe_callB cr_sortedS hg hm PyProof.Rows.boot_sorted WA.pa (by decide) (by decide) (star_cons hs) rfl) (eva_cons h eva_nil hs H (Ext.refl _) _ fun vs H2 e2 hv => by
    cases hv with
    | cons hv ht =>
      cases ht
      cases hv with
      | @lst a vs _ ha hvs =>
        rw [isAll_strs hvs] at ha
        exact ⟨a, l, rfl, .inl (.inl ha), hl, fun ys p pm so hp => q _ _ ys (e2.trans (Ext.new hp)) pm so (.lst upd_same (isAll_ofStrs ys))⟩)
end
end Wb
/-! set(list) of nested tuples that are all unlike. -/
namespace Wb
open PySem PySem.Spec L2 PyProof.Rows

section
variable {P : Program} {w : World} {A : Around} {E : Value → Shared → Prop} {s : Shared}

/-! ### the model's small questions -/
theorem hashBy_any : ∀ (n : Nat) (k : NestedKey) (v : Value) (s : Shared) (Q : Bool → Shared → Prop), NestedIs s.heap k v → (∀ b, Q b s) → wpAny (model P w) A (hashByValue n v) Q E s := by
  intro n
  induction n with
  | zero =>
    intro k v s Q x q
    cases x <;> exact wpAny_pure (q _)
  | succ n ih =>
    intro k v s Q x q
    cases x with
    | none => exact wpAny_pure (q _)
    | bool e => exact wpAny_pure (q _)
    | int i t => exact wpAny_pure (q _)
    | text y t => exact wpAny_pure (q _)
    | @tup a o vs m ks ho hc hd hk =>
      have hT : s.TypeIs (.ref a) "tuple" := ⟨o, ho, hc⟩
      unfold hashByValue
      refine wpAny_bind (wpAny_specialOf hT F.slot_tuple_hash.lookup ?_)
      show wpAny _ _ (seqItems? (.ref a) >>= _) _ _ s
      refine wpAny_bind (wpAny_seqItems ho hd ?_)
      refine wpAny_bind ?_
      show wpAny _ _ (forIn vs _ _) _ _ s
      rw [← Array.forIn_toList]
      refine wpAny_forIn_list _ (fun rest r s' => r.1 = none ∧ s' = s ∧ ∃ ls, NestedAll s.heap ls rest) _ ?_ ?_ _ _ ⟨rfl, rfl, ks, hk⟩
      · rintro y rest r s' ⟨hr, rfl, ls, hl⟩
        cases hl with
        | @cons k1 _ ls' _ h1 h2 =>
          refine wpAny_bind (ih k1 y _ _ h1 fun b => ?_)
          cases b with
          | true =>
            simp only [Bool.not_true, Bool.false_eq_true, if_false]
            exact wpAny_pure ⟨rfl, rfl, ls', h2⟩
          | false =>
            simp only [Bool.not_false, if_true]
            exact wpAny_pure (wpAny_pure (q _))
      · rintro ⟨r1, r2⟩ s' ⟨hr, rfl, _⟩
        simp only at hr; subst hr; exact wpAny_pure (q _)
theorem ofA_nest : ∀ (n : Nat) (k : NestedKey) (v : Value) (s : Shared) (Q : Bool → Shared → Prop), NestedIs s.heap k v → k.depth ≤ n → Q false s → wpAny (model P w) A (ofAClassStatement n v) Q E s := by
  intro n
  induction n with
  | zero =>
    intro k v s Q x hd q
    cases x with
    | tup => simp [NestedKey.depth] at hd
    | _ => exact wpAny_pure q
  | succ n ih =>
    intro k v s Q x hd q
    cases x with
    | none => exact wpAny_pure q
    | bool e => exact wpAny_pure q
    | int i t => exact wpAny_pure q
    | text y t => exact wpAny_pure q
    | @tup a o vs m ks ho hc hdt hk =>
      have hT : s.TypeIs (.ref a) "tuple" := ⟨o, ho, hc⟩
      unfold ofAClassStatement
      refine wpAny_bind (wpAny_typeOf hT ?_)
      dsimp only
      have e : (("tuple" : String) == "tuple") = true := by decide
      simp only [e, if_true, Bool.not_true, Bool.false_eq_true, if_false]
      try refine wpAny_bind (wpAny_pure ?_)
      try simp only [Bool.not_true, Bool.false_eq_true, if_false]
      show wpAny _ _ (seqItems? (.ref a) >>= _) _ _ s
      refine wpAny_bind (wpAny_seqItems ho hdt ?_)
      dsimp only
      refine wpAny_bind ?_
      show wpAny _ _ (forIn vs _ _) _ _ s
      rw [← Array.forIn_toList]
      refine wpAny_forIn_list _ (fun rest r s' => r.1 = none ∧ s' = s ∧ ∃ ls, NestedAll s.heap ls rest ∧ NestedKey.depthAll ls ≤ n) _ ?_ ?_ _ _ ⟨rfl, rfl, ks, hk, by simp only [NestedKey.depth] at hd; omega⟩
      · rintro y rest r s' ⟨hr, rfl, ls, hl, hls⟩
        cases hl with
        | @cons k1 _ ls' _ h1 h2 =>
          simp only [NestedKey.depthAll] at hls
          refine wpAny_bind (ih k1 y _ _ h1 (by omega) ?_)
          simp only [Bool.false_eq_true, if_false]
          exact wpAny_pure ⟨rfl, rfl, ls', h2, by omega⟩
      · rintro ⟨r1, r2⟩ s' ⟨hr, rfl, _⟩
        simp only at hr
        subst hr
        exact wpAny_pure q
/-- the tuple at a is the key k -/
def IsN (h : Heap) (k : NestedKey) (a : Addr) : Prop := NestedIs h k (.ref a) ∧ k.depth ≤ 8
theorem IsN.at {h h' : Heap} {k : NestedKey} {a : Addr} (x : IsN h k a) (e : ∀ b o, h.get? b = some o → h'.get? b = some o) : IsN h' k a := ⟨NestedIs.at (fun b o _ _ hb _ => e b o hb) k _ x.1, x.2⟩
theorem IsN.but {h h' : Heap} {k : NestedKey} {a S : Addr} {o : Obj} {es : Array (Int × Value)} {ep : Nat} {t : SetTable} (x : IsN h k a) (ho : h.get? S = some o) (hd : o.data = .set es ep t) (sb : Heap.SameBut S h h') : IsN h' k a :=
  ⟨NestedIs.at (fun b ob vs n hb hc => by
    refine (sb.2 b fun e => ?_).trans hb
    subst e
    rw [ho] at hb
    cases hb
    rw [hd] at hc
    cases hc) k _ x.1, x.2⟩
theorem seen_nest {k : NestedKey} {b : Addr} {Q : Bool → Shared → Prop} (hk : IsN s.heap k b) {ys : List Value} (hy : ∀ y ∈ ys, ∃ k' c, y = Value.ref c ∧ IsN s.heap k' c) (q : Q false s) : wpAny (model P w) A (searchCouldBeSeen (.ref b) ys) Q E s := by
  unfold searchCouldBeSeen
  refine wpAny_bind ?_
  refine wpAny_forIn_list _ (fun rest r s' => r.1 = none ∧ s' = s ∧ ∀ y ∈ rest, ∃ k' c, y = Value.ref c ∧ IsN s.heap k' c) _ ?_ ?_ _ _ ⟨rfl, rfl, hy⟩
  · rintro v rest r s' ⟨hr, rfl, hall⟩
    obtain ⟨k', c, rfl, hc⟩ := hall v List.mem_cons_self
    have more : ∀ y ∈ rest, ∃ k' c, y = Value.ref c ∧ IsN s'.heap k' c := fun u hu => hall u (List.mem_cons_of_mem _ hu)
    dsimp only
    by_cases hv : (b == c || (carriedByValue (.ref b) && carriedByValue (.ref c))) = true
    · exact wp_if_pos hv (wpAny_pure ⟨rfl, rfl, more⟩)
    · refine wp_if_neg hv ?_
      refine wpAny_bind (quiet_key k _ 8 _ hk.1 hk.2 _ _ _ ?_)
      simp only [Bool.not_true, Bool.false_eq_true, if_false]
      refine wpAny_bind (quiet_key k' _ 8 _ hc.1 hc.2 _ _ _ ?_)
      simp only [Bool.not_true, Bool.false_eq_true, if_false]
      refine wpAny_bind (ofA_nest 8 k _ _ _ hk.1 hk.2 ?_)
      simp only [Bool.false_eq_true, if_false]
      refine wpAny_bind (ofA_nest 8 k' _ _ _ hc.1 hc.2 ?_)
      simp only [Bool.false_eq_true, if_false]
      exact wpAny_pure ⟨rfl, rfl, more⟩
  · rintro ⟨r1, r2⟩ s' ⟨hr, rfl, _⟩
    simp only at hr
    subst hr
    exact wpAny_pure q

/-! ### the set -/
def rowsN (w : World) (L : List (Addr × NestedKey)) : List (Int × Value) := L.map fun p => (p.2.hash w, Value.ref p.1)
structure SetN (w : World) (h : Heap) (a : Addr) (L : List (Addr × NestedKey)) (es : Array (Int × Value)) (ep : Nat) (t : SetTable) : Prop where
  ob : ∃ o, h.get? a = some o ∧ o.ExactSet ∧ o.data = .set es ep t
  rows : es.toList = rowsN w L
  tab : TabOk t (L.map fun p => p.2.hash w)
  tup : ∀ p ∈ L, IsN h p.2 p.1
  room : L.length * 5 < t.mask * 3
  few : L.length < 16
variable {a : Addr} {L : List (Addr × NestedKey)} {es : Array (Int × Value)} {ep : Nat} {t : SetTable}
theorem rowsN_size (h : es.toList = rowsN w L) : es.size = L.length := by
  have q := congrArg List.length h
  unfold rowsN at q
  rw [Array.length_toList, List.length_map] at q
  exact q
theorem fits_tab {hs : List Int} (T : TabOk t hs) (hn : es.size = hs.length) (hm : es.size ≤ t.mask) : t.fits es.size = true := by
  have h1 := T.sz
  unfold SetTable.fits SetTable.fill
  rw [T.dm, Bool.and_eq_true, beq_iff_eq, decide_eq_true_eq]
  show t.place.size = es.size ∧ t.place.size + 0 ≤ t.mask
  omega
theorem SetN.fits (R : SetN w s.heap a L es ep t) : t.fits es.size = true := by
  have h1 := rowsN_size R.rows
  have h2 := R.room
  exact fits_tab R.tab (by rw [List.length_map]; exact h1) (by omega)
theorem rowsN_at (h : es.toList = rowsN w L) {i : Nat} {p : Addr × NestedKey} (hp : L[i]? = some p) : es[i]? = some (p.2.hash w, Value.ref p.1) := by
  rw [← Array.getElem?_toList, h]
  unfold rowsN
  rw [List.getElem?_map, hp] <;> rfl

/-- a new key's search comes to the first empty slot -/
theorem search_new (R : SetN w s.heap a L es ep t) {x : Addr} {k : NestedKey} (hx : IsN s.heap k x) (hu : A.units + 8 < cLine) (hnew : ∀ p ∈ L, p.2 ≠ k) {K : Nat} (hKf : K < 10 * SetTable.turns t.mask)
    (hK : way t.mask (k.hash w) K ∉ t.place.toList) (hKb : ∀ c, c < K → way t.mask (k.hash w) c ∈ t.place.toList) {Q : SetFound → Shared → Prop} (q : Q (.free (way t.mask (k.hash w) K) false) s) :
    ∀ (f c : Nat) (stand : Option SetTable.Probe), stand.getD (t.probeStart (k.hash w)) = nth t.mask (runAt t.mask (SetTable.bits (k.hash w) % (t.mask + 1)) (SetTable.bits (k.hash w))) c → c ≤ K → K - c < f →
      wpAny (model P w) A (setSearchFrom a (.ref x) (k.hash w) true f stand) Q E s
  | 0, c, stand, _, _, hf => absurd hf (Nat.not_lt_zero _)
  | f + 1, c, stand, hst, hc, hf => by
    obtain ⟨o, ho, hex, hd⟩ := R.ob
    rw [setSearchFrom_succ]
    refine wpAny_bind (wpAny_setState_of ho hd R.fits ?_)
    dsimp only
    refine wp_if_neg (by unfold SetTable.gaveWay; rw [mask_odd R.tab.mok]; decide) ?_
    try refine wpAny_bind (wpAny_pure ?_)
    generalize hp0 : runAt t.mask (SetTable.bits (k.hash w) % (t.mask + 1)) (SetTable.bits (k.hash w)) = p0 at hst
    have hp0n : p0.dummy = none := by rw [← hp0]; rfl
    have nodum : ∀ (n : Nat) (p : SetTable.Probe), p.dummy = none → (nth t.mask p n).dummy = none := by
      intro n
      induction n with
      | zero => intro p h; exact h
      | succ n ih =>
        intro p h
        refine ih (adv t.mask p) ?_
        unfold adv
        split <;> exact h
    have hw : ∀ n, (nth t.mask p0 n).j = way t.mask (k.hash w) n := fun n => by rw [← hp0]
    have sh : ∀ n, nth t.mask (nth t.mask p0 c) n = nth t.mask p0 (c + n) := fun n => (nth_add t.mask c _ n).symm
    have spec := go_spec t R.tab.ris R.tab.dm (fun i => (es[i]?.map (·.1)).getD 0) (k.hash w) (10 * SetTable.turns t.mask) (K - c) (nth t.mask p0 c) (nodum c p0 hp0n) (by omega)
      (fun n hn => by rw [sh, hw]; exact hKb (c + n) (by omega)) (by rw [sh, hw, show c + (K - c) = K by omega]; exact hK)
    rcases spec with ⟨n, i, hn, hi, hh, hno, hpr⟩ | ⟨hno, hpr⟩
    · have hpr' : t.probe (fun i => (es[i]?.map (·.1)).getD 0) (k.hash w) (stand.getD (t.probeStart (k.hash w))) = some (.candidate (way t.mask (k.hash w) (c + n)) i (nth t.mask p0 (c + (n + 1)))) := by
        rw [hst, ← hw, ← sh, ← sh]
        exact hpr
      rw [hpr']
      dsimp only
      rw [sh, hw] at hi
      have hil : i < L.length := by
        have h1 : i < t.place.toList.length := (List.getElem?_eq_some_iff.mp hi).1
        have h2 := R.tab.sz
        rw [List.length_map] at h2
        rw [Array.length_toList] at h1
        omega
      have hp : L[i]? = some L[i] := List.getElem?_eq_getElem hil
      generalize L[i] = pe at hp
      have hmem : pe ∈ L := List.mem_of_getElem? hp
      have hne := hnew pe hmem
      have hpt := R.tup pe hmem
      have rest : wpAny (model P w) A (searchRest a (.ref x) (k.hash w) true f es t (way t.mask (k.hash w) (c + n)) i (nth t.mask p0 (c + (n + 1)))) Q E s := by
        unfold searchRest
        rw [rowsN_at R.rows hp]
        dsimp only
        refine wpAny_bind (wpAny_holding ((nestedKind P w).eqBool (x := pe.2) (y := k) hu hpt hx ?_))
        refine wpAny_bind (wpAny_setState_of ho hd R.fits ?_)
        dsimp only
        refine wp_if_neg (by simp [hne]) ?_
        try refine wpAny_bind (wpAny_pure ?_)
        rw [sameMem]
        dsimp only
        have hsl : t.slot (way t.mask (k.hash w) (c + n)) = .live i := slot_live R.tab.ris hi
        simp only [if_true, hsl, rowsN_at R.rows hp]
        refine wpAny_bind (wpAny_isSame_ref_self (wpAny_bind (wpAny_pure ?_)))
        simp only [if_true]
        refine wp_if_neg (by simp [hne]) ?_
        exact search_new R hx hu hnew hKf hK hKb q f (c + (n + 1)) _ (by rw [hp0, Option.getD_some]) (by omega) (by omega)
      by_cases hl : t.led = true
      · refine wp_if_neg (by simp [hl]) ?_
        try refine wpAny_bind (wpAny_pure ?_)
        exact rest
      · refine wp_if_pos (by simp [hl]) ?_
        refine wpAny_bind (seen_nest hx (fun y hy => ?_) ?_)
        · obtain ⟨e, he, ee⟩ := List.mem_map.mp hy
          have he1 : e ∈ es ∧ e.1 = k.hash w := by simpa using he
          have he2 : e ∈ es.toList := by simpa using he1.1
          rw [R.rows] at he2
          obtain ⟨p2, hp2, e2⟩ := List.mem_map.mp he2
          exact ⟨p2.2, p2.1, by rw [← ee, ← e2], R.tup p2 hp2⟩
        · refine wp_if_neg (by decide) ?_
          try refine wpAny_bind (wpAny_pure ?_)
          exact rest
    · have hpr' : t.probe (fun i => (es[i]?.map (·.1)).getD 0) (k.hash w) (stand.getD (t.probeStart (k.hash w))) = some (.empty (way t.mask (k.hash w) K) none) := by
        have e2 : way t.mask (k.hash w) K = (nth t.mask (nth t.mask p0 c) (K - c)).j := by
          rw [sh, hw, show c + (K - c) = K by omega]
        rw [hst, e2]
        exact hpr
      rw [hpr']
      dsimp only
      exact wpAny_pure q

theorem search_new_at (R : SetN w s.heap a L es ep t) {x : Addr} {k : NestedKey} (hx : IsN s.heap k x) (hu : A.units + 8 < cLine) (hnew : ∀ p ∈ L, p.2 ≠ k) {Q : SetFound → Shared → Prop}
    (q : ∀ K, way t.mask (k.hash w) K ∉ t.place.toList → (∀ c, c < K → way t.mask (k.hash w) c ∈ t.place.toList) → Q (.free (way t.mask (k.hash w) K) false) s) :
    wpAny (model P w) A (setSearch a (.ref x) (k.hash w) true) Q E s := by
  have hroom := R.room
  obtain ⟨K, hKf, hK, hKb⟩ := R.tab.first (by rw [List.length_map]; omega) (k.hash w)
  have hbig : K < 100000 := by
    have : 10 * SetTable.turns t.mask ≤ 1420 := by
      unfold SetTable.turns
      rcases R.tab.mok with e | e | e <;> omega
    omega
  unfold setSearch
  exact search_new R hx hu hnew hKf hK hKb (q K hK hKb) 100000 0 none rfl (Nat.zero_le _) (by omega)

theorem range_all {α : Type} : ∀ L : List α, (List.range L.length).filterMap (fun i => L[i]?) = L
  | [] => rfl
  | x :: L => by
    rw [List.length_cons, List.range_succ_eq_map, List.filterMap_cons_some (f := fun i => (x :: L)[i]?) (b := x) rfl, List.filterMap_map]
    have e : ((fun i => (x :: L)[i]?) ∘ Nat.succ) = fun i => L[i]? := rfl
    rw [e, range_all L]
theorem order_new (order : Array Nat) (hr : es.toList = rowsN w L) (hp : order.toList.Perm (List.range L.length)) :
    ∃ L2, (order.filterMap (es[·]?)).toList = rowsN w L2 ∧ L2.Perm L ∧ (L2.map fun p => p.2.hash w) = order.toList.map fun i => (es.map (·.1)).getD i 0 := by
  have step : ∀ l : List Nat, (∀ i ∈ l, i < L.length) → l.filterMap (fun i => es[i]?) = rowsN w (l.filterMap fun i => L[i]?) ∧ ((l.filterMap fun i => L[i]?).map fun p => p.2.hash w) = l.map fun i => (es.map (·.1)).getD i 0 := by
    intro l
    induction l with
    | nil => intro _; exact ⟨rfl, rfl⟩
    | cons i l ih =>
      intro hl
      have hi := hl i List.mem_cons_self
      obtain ⟨e1, e2⟩ := ih fun j hj => hl j (List.mem_cons_of_mem _ hj)
      have hL : L[i]? = some L[i] := List.getElem?_eq_getElem hi
      have hE := rowsN_at hr hL
      refine ⟨?_, ?_⟩
      · rw [List.filterMap_cons_some hE, List.filterMap_cons_some hL, e1]; rfl
      · rw [List.filterMap_cons_some hL, List.map_cons, List.map_cons, e2]
        congr 1
        rw [Array.getD_eq_getD_getElem?, Array.getElem?_map, hE]; rfl
  obtain ⟨e1, e2⟩ := step order.toList fun i hi => List.mem_range.mp (hp.mem_iff.mp hi)
  refine ⟨_, by rw [Array.toList_filterMap]; exact e1, ?_, e2⟩
  have h2 := range_all L
  exact (hp.filterMap _).trans (by rw [h2])

theorem relay_new {o : Obj} (ho : s.heap.get? a = some o) (hex : o.ExactSet) (hd : o.data = .set es ep t) (hrows : es.toList = rowsN w L) (hsz : t.place.size = es.size) (hdm : t.dummies = #[]) (hfl : es.size ≤ t.mask)
    (tup : ∀ p ∈ L, IsN s.heap p.2 p.1) (few : L.length < 16) {wanted : Nat} (hw : SetTable.sizeAbove wanted = 32) {Q : Unit → Shared → Prop}
    (hQ : ∀ h' L' es' ep' t', Heap.SameBut a s.heap h' → SetN w h' a L' es' ep' t' → L'.Perm L → Q () { s with heap := h' }) : wpAny (model P w) A (setRelay a wanted) Q E s := by
  have hsl := rowsN_size hrows
  have hfits : t.fits es.size = true := by
    unfold SetTable.fits SetTable.fill
    rw [hdm, Bool.and_eq_true, beq_iff_eq, decide_eq_true_eq]
    show t.place.size = es.size ∧ t.place.size + 0 ≤ t.mask
    omega
  obtain ⟨t', order, e, hp, T, em, el, ep', ed⟩ := relaid_ok t (hs := es.map (·.1)) (wanted := wanted) (M := 31) (by rw [hw]) (.inr (.inl rfl)) (by rw [Array.size_map, hsl]; omega)
  rw [Array.size_map, hsl] at hp
  obtain ⟨L2, r1, r2, r3⟩ := order_new order hrows hp
  rw [← r3] at T
  have hs2 : (order.filterMap (es[·]?)).size = es.size := by
    have h := congrArg List.length r1
    unfold rowsN at h
    rw [Array.length_toList, List.length_map, r2.length_eq] at h
    rw [h, hsl]
  rw [setRelay_eq]
  refine wpAny_bind (wpAny_setState_of ho hd hfits ?_)
  dsimp only
  refine wp_if_neg (by rw [sizeLine_eq, hw]; omega) ?_
  try refine wpAny_bind (wpAny_pure ?_)
  rw [e]
  dsimp only
  refine wpAny_bind ?_
  refine wp_if_neg (by rw [hs2]; simp) ?_
  try refine wpAny_bind (wpAny_pure ?_)
  refine wpAny_pure ?_
  dsimp only
  refine wpAny_storeSet_of ho hd ?_ (by rw [hs2, hsl, sizeLine_eq]; omega)
  have sb : Heap.SameBut a s.heap (s.heap.update a (Obj.putSet (order.filterMap (es[·]?)) t')) := Heap.SameBut.update ..
  exact hQ _ L2 (order.filterMap (es[·]?)) (ep + 1) t' sb ⟨⟨_, store_at ho hd, ⟨hex.1, hex.2.1, hex.2.2⟩, rfl⟩, r1, T, fun p hpm => (tup p (r2.mem_iff.mp hpm)).but ho hd sb, by rw [r2.length_eq, em]; omega, by rw [r2.length_eq]; exact few⟩ r2

theorem tab_off {hs : List Int} (T : TabOk t hs) : TabOk { t with plain := false } hs := ⟨T.ris, T.dm, T.sz, T.mok, T.bd, T.reach⟩
theorem add_new (R : SetN w s.heap a L es ep t) {x : Addr} {k : NestedKey} (hx : IsN s.heap k x) (hu : A.units + 8 < cLine) (hnew : ∀ p ∈ L, p.2 ≠ k) (hfew : L.length + 1 < 16) {Q : Bool → Shared → Prop}
    (hQ : ∀ b h' L' es' ep' t', Heap.SameBut a s.heap h' → SetN w h' a L' es' ep' t' → L'.Perm ((x, k) :: L) → Q b { s with heap := h' }) :
    wpAny (model P w) A (setAddHashed a (.ref x) (k.hash w)) Q E s := by
  obtain ⟨o, ho, hex, hd⟩ := R.ob
  have hsl := rowsN_size R.rows
  have hroom := R.room
  unfold setAddHashed
  refine wpAny_holding ?_
  rw [show (100000 : Nat) = 99999 + 1 from rfl, setAddHashedIn_succ]
  refine wpAny_bind (wpAny_setState_of ho hd R.fits ?_)
  dsimp only
  refine wp_if_neg (by simp [byScan, Value.scannable]) ?_
  try refine wpAny_bind (wpAny_pure ?_)
  refine wpAny_bind (search_new_at R hx hu hnew fun K hK hb => ?_)
  dsimp only
  refine wpAny_bind (wpAny_setState_of ho hd R.fits ?_)
  dsimp only
  obtain ⟨q1, q2, q3, q4, q5, q6, q7, q8, q9⟩ := R.tab.put hK hb
  generalize t.put (way t.mask (k.hash w) K) = pt at q1 q3 q4 q5 q6 q7 q8 q9 ⊢
  obtain ⟨t1, p⟩ := pt
  dsimp only at q1 q3 q4 q5 q6 q7 q8 q9 ⊢
  subst q1
  have hin : (SetTable.insertAt es (SetTable.below t.place (way t.mask (k.hash w) K)) (k.hash w, Value.ref x)).toList = rowsN w (L.take (SetTable.below t.place (way t.mask (k.hash w) K)) ++ (x, k) :: L.drop (SetTable.below t.place (way t.mask (k.hash w) K))) := by
    rw [SetTable.toList_insertAt, R.rows]
    unfold rowsN
    rw [List.map_append, List.map_cons, List.map_take, List.map_drop]
  generalize SetTable.below t.place (way t.mask (k.hash w) K) = p at q2 q3 hin ⊢
  have pm := put_perm L p (x, k)
  have hlen : (L.take p ++ (x, k) :: L.drop p).length = L.length + 1 := pm.length_eq
  have hhs : (L.take p ++ (x, k) :: L.drop p).map (fun p => p.2.hash w) = (L.map fun p => p.2.hash w).take p ++ k.hash w :: (L.map fun p => p.2.hash w).drop p := by
    rw [List.map_append, List.map_cons, List.map_take, List.map_drop]
  rw [← hhs] at q3
  have hes := rowsN_size hin
  rw [hlen] at hes
  generalize SetTable.insertAt es p (k.hash w, Value.ref x) = es1 at hin hes ⊢
  generalize L.take p ++ (x, k) :: L.drop p = L1 at pm hlen q3 hin
  -- whatever is plain
  have go : ∀ t2 : SetTable, TabOk t2 (L1.map fun p => p.2.hash w) → t2.mask = t.mask → t2.tooFull = t1.tooFull →
      wpAny (model P w) A (do
        storeSet a es1 t2
        if (!false && t2.tooFull) = true then do setRelay a (SetTable.grown (es.size + 1)); pure true else pure true) Q E s := fun t2 T2 em ef => by
    refine wpAny_bind (wpAny_storeSet_of ho hd ?_ (by rw [hes, sizeLine_eq]; omega))
    have sb : Heap.SameBut a s.heap (s.heap.update a (Obj.putSet es1 t2)) := Heap.SameBut.update ..
    have ho1 := store_at (es' := es1) (t' := t2) ho hd
    generalize s.heap.update a (Obj.putSet es1 t2) = h1 at sb ho1 ⊢
    have tup1 : ∀ p ∈ L1, IsN h1 p.2 p.1 := fun p hp => by
      rcases List.mem_cons.mp (pm.mem_iff.mp hp) with e | hp
      · rw [e]; exact hx.but ho hd sb
      · exact (R.tup p hp).but ho hd sb
    have hfull : t2.tooFull = decide ((L.length + 1) * 5 ≥ t.mask * 3) := by
      rw [ef]
      unfold SetTable.tooFull
      rw [q9, List.length_map, q4]
    by_cases hf : t2.tooFull = true
    · refine wp_if_pos (by rw [hf]; rfl) ?_
      have hge : (L.length + 1) * 5 ≥ t.mask * 3 := by rw [hfull, decide_eq_true_eq] at hf; exact hf
      have h4 : L.length = 4 ∧ t.mask = 7 := by
        rcases R.tab.mok with e | e | e <;> rw [e] at hge hroom <;> omega
      refine wpAny_bind (relay_new (s := { s with heap := h1 }) ho1 ⟨hex.1, hex.2.1, hex.2.2⟩ rfl hin (by rw [T2.sz, List.length_map, hlen, hes]) T2.dm (by rw [hes, em]; omega) tup1 (by rw [hlen]; exact hfew) (by rw [hsl, h4.1]; exact size_20) ?_)
      intro h2 L2 es2 ep2 t3 sb2 R2 pm2
      exact wpAny_pure (hQ true h2 L2 es2 ep2 t3 (sb.trans sb2) R2 (pm2.trans pm))
    · refine wp_if_neg (by simp [hf]) ?_
      refine wpAny_pure (hQ true h1 L1 es1 (ep + 1) t2 sb ⟨⟨_, ho1, ⟨hex.1, hex.2.1, hex.2.2⟩, rfl⟩, hin, T2, tup1, ?_, by rw [hlen]; exact hfew⟩ pm)
      rw [hfull, decide_eq_true_eq] at hf
      rw [hlen, em]
      omega
  by_cases hp1 : t1.plain = true
  · rw [if_pos hp1]
    refine wpAny_bind (hashBy_any 8 k _ _ _ hx.1 fun b => ?_)
    cases b with
    | true => exact go t1 q3 q4 rfl
    | false => exact go _ (tab_off q3) q4 rfl
  · rw [if_neg hp1]
    refine wpAny_bind (wpAny_pure ?_)
    exact go t1 q3 q4 rfl
end
end Wb
/-! len(set(rows)). -/
namespace Wb
open PySem PySem.Spec L2 PyProof.Rows

section
variable {P : Program} {w : World} {A : Around} {E : Value → Shared → Prop} {s : Shared}
theorem SetN.new {h : Heap} {a : Addr} (ho : h.get? a = some (newSet w)) : SetN w h a [] #[] 0 (.fresh 0 0 (!w.params.followText "set-order")) where
  ob := ⟨_, ho, ⟨rfl, rfl, rfl⟩, rfl⟩
  rows := rfl
  tab := ⟨List.Pairwise.nil, rfl, rfl, .inl rfl, fun x hx => (by cases hx), fun i h j hi => (by simp at hi)⟩
  tup := fun p hp => (by cases hp)
  room := by show 0 * 5 < 7 * 3; decide
  few := by show 0 < 16; decide
theorem set_nest {l : Addr} {items : Array Value} {ks : List (Addr × NestedKey)} {Q : Value → Shared → Prop} (hh : A.handled = none) (hl : s.heap.IsList l items) (hit : items.toList = ks.map fun p => Value.ref p.1) (hk : ∀ p ∈ ks, IsN s.heap p.2 p.1)
    (nd : (ks.map (·.2)).Nodup) (few : ks.length < 15) (hu : A.units + 20 < cLine)
    (h : ∀ (h' : Heap) (tk : Nat) L es ep t, SetN w h' s.heap.objs.size L es ep t → L.Perm ks → (∀ b o, s.heap.get? b = some o → h'.get? b = some o) → Q (.ref s.heap.objs.size) { s with heap := h', toks := tk }) :
    wpAny (model P w) A (call (.type "set") [.ref l]) Q E s := by
  have hsz : items.size = ks.length := by
    have q := congrArg List.length hit
    rw [Array.length_toList, List.length_map] at q
    exact q
  refine set_any (J := fun S i h => ∃ L es ep t, SetN w h S L es ep t ∧ L.Perm (ks.take i)) hh hl ⟨fun S h _ _ e => ⟨[], #[], 0, _, SetN.new e, .nil⟩, fun S i h h' R k k2 => ?_, fun S i v s1 Q E hS hv R k hQ => ?_⟩ fun h' tk R k => ?_
  · obtain ⟨L, es, ep, t, R, pm⟩ := R
    obtain ⟨o, ho, r⟩ := R.ob
    exact ⟨L, es, ep, t, ⟨⟨o, k o ho, r⟩, R.rows, R.tab, fun p hp => (hk p (List.mem_of_mem_take (pm.mem_iff.mp hp))).at k2, R.room, R.few⟩, pm⟩
  · obtain ⟨L, es, ep, t, R, pm⟩ := R
    have hv' : items.toList[i]? = some v := by rw [Array.getElem?_toList]; exact hv
    rw [hit, List.getElem?_map] at hv'
    cases hq : ks[i]? with
    | none => rw [hq] at hv'; cases hv'
    | some p =>
      rw [hq] at hv'
      have hv2 : Value.ref p.1 = v := Option.some.inj hv'
      subst hv2
      have hp := List.mem_of_getElem? hq
      have hi : i < ks.length := (List.getElem?_eq_some_iff.mp hq).1
      have hlen : L.length = i := by rw [pm.length_eq, List.length_take]; omega
      have et : ks.take (i + 1) = ks.take i ++ [p] := by rw [List.take_succ, hq]; rfl
      have hnew : ∀ q ∈ L, q.2 ≠ p.2 := fun q hq2 e => by
        have n2 : ((ks.take (i + 1)).map (·.2)).Nodup := List.Nodup.sublist ((List.take_sublist _ _).map _) nd
        rw [et, List.map_append, List.nodup_append] at n2
        exact n2.2.2 q.2 (List.mem_map.mpr ⟨q, pm.mem_iff.mp hq2, rfl⟩) p.2 (by simp) e
      unfold setAdd
      refine wpAny_holding (wpAny_bind ((nestedKind P w).pyHash (k := p.2) (show A.units + 3 + 8 < cLine by omega) ((hk p hp).at k) ?_))
      show wpAny (model P w) A.in1.in1.in1 (setAddHashed S (.ref p.1) (p.2.hash w)) Q E { s1 with toks := s1.toks + p.2.draws }
      refine add_new (s := { s1 with toks := s1.toks + p.2.draws }) R ((hk p hp).at k) (show A.units + 3 + 8 < cLine by omega) hnew (by omega) fun b h' L' es' ep' t' sb R' pm' => ?_
      refine hQ b h' _ (Nat.le_add_right _ _) sb ⟨L', es', ep', t', R', ?_⟩
      rw [et]
      exact pm'.trans ((List.Perm.cons p pm).trans (List.perm_append_singleton _ _).symm)
  · obtain ⟨L, es, ep, t, R, pm⟩ := R
    rw [hsz, List.take_length] at pm
    exact h h' tk L es ep t R pm k
end

def Eff.nk : Eff → NestedKey
  | .coins a => .tup [.text "coins", .num a]
  | .fill a b => .tup [.text "fill", .num a, .num b]
def Mnr.nk (x : Mnr) : NestedKey := .tup [.text x.room, .text x.job, .text x.other, x.eff.nk]
theorem Mnr.nk_inj {x y : Mnr} (h : x.nk = y.nk) : x = y := by
  obtain ⟨r, j, o, e⟩ := x
  obtain ⟨r', j', o', e'⟩ := y
  unfold Mnr.nk at h
  simp only [NestedKey.tup.injEq, List.cons.injEq, NestedKey.text.injEq, and_true] at h
  obtain ⟨rfl, rfl, rfl, h⟩ := h
  cases e <;> cases e' <;> simp [Eff.nk] at h
  · obtain rfl := Int.ofNat.inj h; rfl
  · obtain ⟨h1, h2⟩ := h
    obtain rfl := Int.ofNat.inj h1
    obtain rfl := Int.ofNat.inj h2
    rfl
section
variable {X : Cx}
theorem nest_tup {pins : List (Addr × Obj)} {σ : L2.St} {H : Hp} {s : Shared} (I : Inv X pins σ H s) {ks : List NestedKey} {ds : List D} {v : V} {u : Value} (hr : RelV v u) (h : Is X.K H v (.tup ds)) (go : ∀ vs us, IsAll X.K H vs ds → Vals vs us → NestedAll s.heap ks us) : NestedIs s.heap (.tup ks) u := by
  cases h with
  | @tup a vs _ hs ha =>
    cases hr
    obtain ⟨its, r, ⟨o, ho, hc, n, hd⟩, _⟩ := I.tuple hs
    exact .tup ho hc hd (by simpa using go vs its ha r)
theorem nest_str {H : Hp} {h : Heap} {x : Str} {v : V} {u : Value} (hr : RelV v u) (i : Is X.K H v (.str x)) : NestedIs h (.text x) u := by
  cases i; obtain ⟨t, rfl⟩ := hr; exact .text x t
theorem nest_int {H : Hp} {h : Heap} {x : Int} {v : V} {u : Value} (hr : RelV v u) (i : Is X.K H v (.int x)) : NestedIs h (.num x) u := by
  cases i; obtain ⟨t, rfl⟩ := hr; exact .int x t
theorem nest_eff {pins : List (Addr × Obj)} {σ : L2.St} {H : Hp} {s : Shared} (I : Inv X pins σ H s) {e : Eff} {v : V} {u : Value} (hr : RelV v u) (h : Is X.K H v e.d) : NestedIs s.heap e.nk u := by
  cases e with
  | coins a =>
    refine nest_tup I hr h fun vs us ha hv => ?_
    cases ha with
    | cons h1 ha => cases ha with
      | cons h2 ha => cases ha; cases hv with
        | cons r1 hv => cases hv with
          | cons r2 hv => cases hv; exact .cons (nest_str r1 h1) (.cons (nest_int r2 h2) .nil)
  | fill a b =>
    refine nest_tup I hr h fun vs us ha hv => ?_
    cases ha with
    | cons h1 ha => cases ha with
      | cons h2 ha => cases ha with
        | cons h3 ha => cases ha; cases hv with
          | cons r1 hv => cases hv with
            | cons r2 hv => cases hv with
              | cons r3 hv => cases hv; exact .cons (nest_str r1 h1) (.cons (nest_int r2 h2) (.cons (nest_int r3 h3) .nil))
theorem nest_mnr {pins : List (Addr × Obj)} {σ : L2.St} {H : Hp} {s : Shared} (I : Inv X pins σ H s) {x : Mnr} {v : V} {u : Value} (hr : RelV v u) (h : Is X.K H v x.d) : NestedIs s.heap x.nk u :=
  nest_tup I hr h fun vs us ha hv => by
    cases ha with
    | cons h1 ha => cases ha with
      | cons h2 ha => cases ha with
        | cons h3 ha => cases ha with
          | cons h4 ha => cases ha; cases hv with
            | cons r1 hv => cases hv with
              | cons r2 hv => cases hv with
                | cons r3 hv => cases hv with
                  | cons r4 hv => cases hv; exact .cons (nest_str r1 h1) (.cons (nest_str r2 h2) (.cons (nest_str r3 h3) (.cons (nest_eff I r4 h4) .nil)))
theorem nk_depth (x : Mnr) : x.nk.depth ≤ 8 := by
  obtain ⟨r, j, o, e⟩ := x
  cases e <;> simp [Mnr.nk, Eff.nk, NestedKey.depth, NestedKey.depthAll]
/-- the rows with their places -/
theorem nest_rows {pins : List (Addr × Obj)} {σ : L2.St} {H : Hp} {s : Shared} (I : Inv X pins σ H s) : ∀ {rows : List Mnr} {vs : List V} {us : List Value}, IsAll X.K H vs (rows.map Mnr.d) → Vals vs us →
    ∃ ks : List (Addr × NestedKey), us = ks.map (fun p => Value.ref p.1) ∧ (∀ p ∈ ks, IsN s.heap p.2 p.1) ∧ ks.map (·.2) = rows.map Mnr.nk
  | [], _, _, .nil, .nil => ⟨[], rfl, fun _ h => (by cases h), rfl⟩
  | x :: rows, _, _, .cons h1 ha, .cons r1 hv => by
    obtain ⟨ks, e1, e2, e3⟩ := nest_rows I ha hv
    have n1 := nest_mnr I r1 h1
    have h1' : Is X.K H _ (.tup [.str x.room, .str x.job, .str x.other, x.eff.d]) := h1
    cases h1' with
    | @tup a vs _ hs _ =>
      cases r1
      exact ⟨(a, x.nk) :: ks, by rw [e1]; rfl, fun p hp => by
        rcases List.mem_cons.mp hp with rfl | hp
        · exact ⟨n1, nk_depth x⟩
        · exact e2 p hp, by rw [List.map_cons, e3]; rfl⟩

def SetLO (a : Addr) (n : Nat) : HO := .ext fun h => ∃ o es ep t, h.get? a = some o ∧ o.ExactSet ∧ o.data = .set es ep t ∧ t.fits es.size = true ∧ es.size = n
def rSetN (K : PySem.W.Frag) : List V → Hp → VK → Prop := fun vs H Q => ∃ (l : Addr) (rows : List Mnr), vs = [V.ref l] ∧ Is K H (.ref l) (.lst (rows.map Mnr.d)) ∧ rows.Nodup ∧ rows.length < 15 ∧ ∀ a, H a = none → Q (.ref a) (upd H a (SetLO a rows.length))
theorem cr_setN (hc : X.calm = true) (hu : X.A.units + 64 < cLine) : CallR X (.type "set") (rSetN X.K) := by
  intro pins s σ H vs us Q I r h
  obtain ⟨l, rows, rfl, hl, nd, few, q⟩ := h
  rw [Vals.ref1 r]
  cases hl with
  | @lst _ vs _ hl ha =>
    obtain ⟨its, rv, pl, hz⟩ := I.list (.inl (.inl hl))
    obtain ⟨ks, e1, e2, e3⟩ := nest_rows I ha rv
    have hn : H s.heap.objs.size = none := I.hok.fresh (Nat.le_refl _)
    have hlen : ks.length = rows.length := by have := congrArg List.length e3; simpa using this
    refine set_nest (P := X.prog) (w := X.w) (ks := ks) (I.ok.hd hc) pl.isList (by simpa using e1) e2 (by rw [e3]; exact List.Pairwise.map _ (fun a b hne e => hne (Mnr.nk_inj e)) nd) (by omega) (by omega) fun h' tk L es ep t R pm k => ?_
    obtain ⟨o, ho, hex, hd⟩ := R.ob
    have hs : es.size = rows.length := by rw [rowsN_size R.rows, pm.length_eq, hlen]
    refine ⟨.ref s.heap.objs.size, upd H s.heap.objs.size (SetLO s.heap.objs.size rows.length), I.laid (t' := tk) k (Nat.le_refl _) ⟨⟨o, es, ep, t, ho, hex, hd, R.fits (s := { s with heap := h', toks := tk }), hs⟩, ⟨_, ho⟩, fun h1 h2 p k => ?_⟩, rfl, q _ hn⟩
    obtain ⟨o', es', ep', t', ho', r'⟩ := p
    exact ⟨o', es', ep', t', k _ ho', r'⟩
def rLenL : List V → Hp → VK → Prop := fun vs H Q => ∃ (a : Addr) (n : Nat), vs = [V.ref a] ∧ H a = some (SetLO a n) ∧ n < 10000 ∧ Q (.int (n : Nat)) H
theorem cr_lenL : CallR X (.builtin "len") rLenL := by
  intro pins s σ H vs us Q I r h
  obtain ⟨a, n, rfl, ha, hb, q⟩ := h
  rw [Vals.ref1 r]
  obtain ⟨o, es, ep, t, ho, hex, hd, hf, hn⟩ := (I.hok a _ ha).1
  refine call_len_set ho hex hd hf (by rw [hn]; omega) ⟨.int (n : Nat), H, I.tok _, ⟨_, by rw [hn]⟩, q⟩
variable {σ : L2.St} {H : Hp} {e : Expr} {pos p p2 q2 : Pos}
theorem ev_lenSetN {rows : List Mnr} (hm : X.mg "len" = none) (hm2 : X.mg "set" = none) (hu : X.A.units + 64 < cLine) (h : Ev X σ H e (.lst (rows.map Mnr.d))) (nd : rows.Nodup) (hl : rows.length < 15) (hc : X.calm = true := by rfl) (hg : Gl X "len" := by rfl) (hg2 : Gl X "set" := by rfl) (hs : noStar e = true := by rfl) :
    Ev X σ H (.Call (.Name "len" p) [.Call (.Name "set" p2) [e] [] q2] [] pos) (.int (rows.length : Nat)) :=
  fun H1 e1 Q q => WE.of (pe_callB cr_lenL hg hm PySem.boot_len WA.pa (by decide) (by decide) (star_cons rfl) rfl) (WA.of (pa_cons WE.pe WA.pa (star_cons rfl))
    (WE.of (pe_callTy (cr_setN hc hu) hg2 hm2 PyProof.Rows.boot_set WA.pa (by decide) (by decide) (star_cons hs) rfl) (eva_cons h eva_nil hs H1 e1 _ fun vs H2 e2 hv => by
      cases hv with
      | cons hv ht =>
        cases ht
        cases hv with
        | @lst l vs _ hl2 hvs =>
          exact ⟨l, rows, rfl, .lst hl2 hvs, nd, hl, fun a ha => WA.of pa_nil ⟨a, rows.length, rfl, upd_same, by omega, q _ _ (e2.trans (Ext.new ha)) (.int _)⟩⟩)))
end
end Wb
/-! sorted(list of tuples): some order of them. -/
namespace Wb
open PySem PySem.Spec L2 PyProof.Rows PySem.W

section
variable {X : Cx}
/-- a sort of data that stand in one order among themselves -/
structure SortOk (ds : List D) : Prop where
  plain : ∀ d ∈ ds, plainD d = true
  alk : ∀ d ∈ ds, ∀ e ∈ ds, alike (py d) (py e) = true
  tup : ∀ d ∈ ds, ∃ x r, py d = .tuple (x :: r)
  deep : ∀ d ∈ ds, (py d).depth ≤ 10
def rSortD (K : PySem.W.Frag) : List V → Hp → VK → Prop := fun vs H Q => ∃ (l : Addr) (ds : List D), vs = [V.ref l] ∧ Is K H (.ref l) (.lst ds) ∧ SortOk ds ∧ ds.length ≤ 100000 ∧ ∀ ds' vs' p, ds'.Perm ds → IsAll K H vs' ds' → H p = none → Q (.ref p) (upd H p (.lst vs'))
theorem each_of {K : PySem.W.Frag} {H : Hp} : ∀ {vs : List V} {ds : List D} {us : List Value}, IsAll K H vs ds → Vals vs us → EachIs (fun (u : Value) (b : V × D) => RelV b.1 u ∧ Is K H b.1 b.2) us (vs.zip ds)
  | _, _, _, .nil, .nil => .nil
  | _, _, _, .cons h t, .cons r rs => .cons ⟨r, h⟩ (each_of t rs)
theorem of_each {K : PySem.W.Frag} {H : Hp} : ∀ {bs : List (V × D)} {us : List Value}, EachIs (fun (u : Value) (b : V × D) => RelV b.1 u ∧ Is K H b.1 b.2) us bs → Vals (bs.map (·.1)) us ∧ IsAll K H (bs.map (·.1)) (bs.map (·.2))
  | [], _, .nil => ⟨.nil, .nil⟩
  | b :: bs, _, .cons h t => ⟨.cons h.1 (of_each t).1, .cons h.2 (of_each t).2⟩
theorem cr_sortD (hu : X.A.units + 64 < cLine) : CallR X (.builtin "sorted") (rSortD X.K) := by
  intro pins s σ H vs us Q I r h
  obtain ⟨l, ds, rfl, hl, ok, hn, q⟩ := h
  rw [Vals.ref1 r]
  cases hl with
  | @lst _ vs _ hl ha =>
    obtain ⟨its, rv, pl, hz⟩ := I.list (.inl (.inl hl))
    have len : vs.length = ds.length := ha.length
    have mem2 : ∀ b ∈ vs.zip ds, b.2 ∈ ds := fun b hb => (List.of_mem_zip (a := b.1) (b := b.2) hb).2
    have ez := each_of ha rv
    refine sorted_data (enc := fun b : V × D => py b.2) pl.isList ez ((each_mem ez).mono fun u b ⟨⟨r1, h1⟩, hb⟩ => Dp.reads I _ b.1 u (h1.dp (ok.plain _ (mem2 b hb))) r1)
      (fun d hd e he => ?_) (.inl fun d hd => ?_) (by rw [List.length_zip, sizeLine_eq]; omega) (fun b hb => ?_) fun out ho eo => ?_
    · obtain ⟨b, hb, rfl⟩ := List.mem_map.mp hd
      obtain ⟨c, hc, rfl⟩ := List.mem_map.mp he
      exact ok.alk _ (mem2 b hb) _ (mem2 c hc)
    · obtain ⟨b, hb, rfl⟩ := List.mem_map.mp hd
      exact ok.tup _ (mem2 b hb)
    · have := ok.deep _ (mem2 b hb)
      omega
    · obtain ⟨v1, v2⟩ := of_each eo
      have pm := List.mergeSort_perm (vs.zip ds) (dataLe false fun b : V × D => py b.2)
      generalize (vs.zip ds).mergeSort (dataLe false fun b : V × D => py b.2) = bs at eo v1 v2 pm
      have p2 : (bs.map (·.2)).Perm ds := by
        have z := pm.map (·.2)
        rw [List.map_snd_zip (Nat.le_of_eq len.symm)] at z
        exact z
      obtain ⟨ep, he'⟩ := PyProof.Rows.sortedAll_at s.heap its out.toArray
      have hlen : (bs.map (·.1)).length ≤ sizeLine := by rw [List.length_map, pm.length_eq, List.length_zip, sizeLine_eq]; omega
      have hn2 : H (s.heap.objs.size + 1) = none := I.hok.fresh (Nat.le_succ _)
      exact ⟨.ref _, upd H (s.heap.objs.size + 1) (.lst (bs.map (·.1))), I.laid (t' := s.toks) (fun _ _ => PyProof.Rows.sortedAll_old) (Nat.le_succ _) ⟨hlen, out.toArray.toList, ep, by simpa using v1, he'⟩, rfl, q _ _ _ p2 v2 hn2⟩
variable {σ : L2.St} {H : Hp} {e : Expr} {pos p : Pos}
theorem we_sortD {ds : List D} {Q : VK} (hm : X.mg "sorted" = none) (hu : X.A.units + 64 < cLine) (h : Ev X σ H e (.lst ds)) (ok : SortOk ds) (hl : ds.length ≤ 100000) (q : ∀ v H2 (ds' : List D), Ext H H2 → ds'.Perm ds → Is X.K H2 v (.lst ds') → Q v H2) (hg : Gl X "sorted" := by rfl) (hs : noStar e = true := by rfl) : WE X (.Call (.Name "sorted" p) [e] [] pos) σ H Q :=
  WE.of (pe_callB (cr_sortD hu) hg hm PyProof.Rows.boot_sorted WA.pa (by decide) (by decide) (star_cons hs) rfl) (eva_cons h eva_nil hs H (Ext.refl _) _ fun vs H2 e2 hv => by
    cases hv with
    | cons hv ht =>
      cases ht
      cases hv with
      | @lst a vs _ ha hvs =>
        exact ⟨a, ds, rfl, .lst ha hvs, ok, hl, fun ds' vs' p pm ia hp => q _ _ ds' (e2.trans (Ext.new hp)) pm (.lst upd_same (ia.mono (Ext.new hp)))⟩)
end
theorem alike_mnr (x y : Mnr) : alike x.py y.py = true := by
  obtain ⟨r, j, o, e⟩ := x
  obtain ⟨r', j', o', e'⟩ := y
  cases e <;> cases e' <;> simp [Mnr.py, Eff.py, alike, alikeAll]
theorem depth_mnr (x : Mnr) : x.py.depth ≤ 10 := by
  obtain ⟨r, j, o, e⟩ := x
  cases e <;> simp [Mnr.py, Eff.py, PyData.depth, PyData.depthAll]
theorem sortOk_rows (rows : List Mnr) : SortOk (rows.map Mnr.d) where
  plain := fun d hd => by obtain ⟨x, _, rfl⟩ := List.mem_map.mp hd; exact plain_mnr x
  alk := fun d hd e he => by
    obtain ⟨x, _, rfl⟩ := List.mem_map.mp hd
    obtain ⟨y, _, rfl⟩ := List.mem_map.mp he
    rw [py_mnr, py_mnr]; exact alike_mnr x y
  tup := fun d hd => by obtain ⟨x, _, rfl⟩ := List.mem_map.mp hd; rw [py_mnr]; exact ⟨_, _, rfl⟩
  deep := fun d hd => by obtain ⟨x, _, rfl⟩ := List.mem_map.mp hd; rw [py_mnr]; exact depth_mnr x
theorem perm_rows {rows : List Mnr} {ds : List D} (h : ds.Perm (rows.map Mnr.d)) : ∃ rows' : List Mnr, rows'.Perm rows ∧ ds = rows'.map Mnr.d := by
  have inj : ∀ x y : Mnr, x.d = y.d → x = y := fun x y e => by
    obtain ⟨r, j, o, f⟩ := x
    obtain ⟨r', j', o', f'⟩ := y
    simp only [Mnr.d, D.tup.injEq, List.cons.injEq, D.str.injEq, and_true] at e
    obtain ⟨rfl, rfl, rfl, e⟩ := e
    cases f <;> cases f' <;> simp [Eff.d] at e
    · obtain rfl := Int.ofNat.inj e; rfl
    · obtain ⟨h1, h2⟩ := e
      obtain rfl := Int.ofNat.inj h1
      obtain rfl := Int.ofNat.inj h2
      rfl
  generalize hl : rows.map Mnr.d = l at h
  induction h generalizing rows with
  | nil => cases rows with
    | nil => exact ⟨[], .nil, rfl⟩
    | cons _ _ => cases hl
  | @cons a l1 l2 h ih => cases rows with
    | nil => cases hl
    | cons x rows =>
      injection hl with h1 h2
      obtain ⟨r', p, e⟩ := ih h2
      exact ⟨x :: r', p.cons x, by rw [e, ← h1]; rfl⟩
  | swap a b l => cases rows with
    | nil => cases hl
    | cons x rows => cases rows with
      | nil => cases hl
      | cons y rows =>
        injection hl with h1 h2
        injection h2 with h2 h3
        exact ⟨y :: x :: rows, List.Perm.swap x y rows, by rw [← h1, ← h2, ← h3]; rfl⟩
  | trans h1 h2 ih1 ih2 =>
    obtain ⟨r', p, e⟩ := ih2 hl
    obtain ⟨r2, p2, e2⟩ := ih1 e.symm
    exact ⟨r2, p2.trans p, e2⟩
end Wb
/-! {elt for x in iter}: a set of texts. -/
namespace Wb
open PySem PySem.Spec L2 PyProof.Rows PySem.Froz

section
variable {X : Cx}
theorem addS_ok {pins : List (Addr × Obj)} {σ : L2.St} {H : Hp} {s : Shared} {E : Value → Shared → Prop} {D : Addr} {l : List Str} {y : Str} {t : Tok} {Q : Value → Shared → Prop} (I : Inv X pins σ H s) (hD : H D = some (SetSO X.prog X.w D l)) (room : l.length + 1 < scanBound)
    (h : ∀ s', Inv X pins σ (upd H D (SetSO X.prog X.w D (addS y l))) s' → Q .none s') : wpAny (model X.prog X.w) X.A (call (.builtin "set.add") [.ref D, .str y t]) Q E s := by
  have R := setSO_get I hD
  have hT : s.TypeIs (.ref D) "set" := by
    obtain ⟨⟨D', e, _⟩, _⟩ := R
    exact ⟨_, e, rfl⟩
  refine wpAny_call_entry F.slot_set_add hT F.entry_set_add ?_ (F.args_set_add_2 _ _)
  unfold Builtin.«set.add» Builtin.Frozenset.oneOther
  simp only [List.isEmpty_nil, bind_assoc]
  unfold Builtin.Frozenset.addrOf
  refine wpAny_bind (wpAny_pure ?_)
  try dsimp only
  refine wpAny_bind (wpAny_pure ?_)
  try dsimp only
  refine wpAny_bind ?_
  refine setS_add R room fun b h' tk htk sb R' => ?_
  show wpAny _ _ (ret Value.none) _ _ _
  have he : ∃ u, h'.get? D = some u := by
    obtain ⟨⟨D', e, _⟩, _⟩ := R'
    exact ⟨_, e⟩
  exact wpAny_pure ⟨_, rfl, h _ (I.write (e := D) (t' := tk) (by rw [hD]; trivial) (.inl rfl) (fun b u hb hu => (sb.2 b hb).trans hu) he (setSO_new R'))⟩

/-- what a comprehension of a set of texts does -/
def tSs (P : Program) (w : World) (wi : TI) (g : TG) (te : TE) (vs : List Nat) : TE := fun σ H Q => wi σ H fun J H1 => ∀ D, H1 D = none → ∃ W : Nat → Nat → Hp → Prop, (∃ m, W 0 m (upd H1 D (SetSO P w D []))) ∧ ∀ i m H, W i m H →
  (J.stop i H ∧ Q (.ref D) H) ∨ (J.go i H ∧ ∃ Nx : Hp → Prop, (∀ H', Nx H' → ∃ m', m' < m ∧ W (i + 1) m' H') ∧ ∀ x H', J.yld i H x H' → g x (wipe σ vs) H' fun σ2 H2 => wipe σ2 vs = wipe σ vs ∧
    te σ2 H2 fun y H4 => ∃ (c : Str) (l : List Str), y = .str c ∧ H4 D = some (SetSO P w D l) ∧ l.length + 1 < scanBound ∧ Nx (upd H4 D (SetSO P w D (addS c l))))
theorem pe_ss {elt tg iter : Expr} {scope : Scope} {own : List (PySem.Str × Nat)} {pos : Pos} {wi : TI} {g : TG} {te : TE} (hc : X.calm = true) (hN : X.N.Nodup) (hi : PI X tg iter wi) (ok : BlkOk X.N X.env.scope scope own)
    (hg : ∀ (s : Shared) (H : Hp) (C : Addr) (cl : List (PySem.Str × Addr)) (fp : List Addr), PG (X.blk s H scope (compEnvC scope cl C X.env) fp) tg g)
    (he : ∀ (s : Shared) (H : Hp) (C : Addr) (cl : List (PySem.Str × Addr)) (fp : List Addr), PE (X.blk s H scope (compEnvC scope cl C X.env) fp) elt te) (hs : ∀ x, foldedSetIterable iter X.env x = pure x) :
    PE X (.SetComp elt [⟨tg, iter, [], 0⟩] scope pos) (tSs X.prog X.w wi g te (own.map (·.2))) := by
  refine ⟨fun pins s σ H Q I h => ?_⟩
  rw [PpSet.eval_SetComp]
  have hfree : ∀ y ∈ scope.names, y.2 = .free → ∃ c, X.env.cells.lookup y.1 = some c := fun y hy e => by
    rcases ok.free y hy e with k | k
    · exact I.ok.has _ (.inl k)
    · exact I.ok.has _ (.inr k)
  refine wpAny_comprehension_free (use := none) rfl hs (closure_ok hfree) ok.kind (fun y hy e => by rw [ok.uniq y hy, e])
    (thn (hi.run pins s σ H _ I h) fun xv s1 hx => thn hx fun itv s2 h2 => ?_)
  obtain ⟨it, fp, tn, J, H2, e, I2, T, st2, f2, q⟩ := h2
  subst e
  refine PpSet.newSet_ok (newEnv_comp ?_)
  generalize hD : s2.heap.objs.size = D
  have hDn : H2 D = none := I2.hok.fresh (Nat.le_of_eq hD)
  obtain ⟨W, ⟨m0, w0⟩, turn⟩ := q D hDn
  generalize hs3 : ({ s2 with heap := s2.heap.push (newSet X.w) } : Shared) = s3
  have I3 : Inv X pins σ (upd H2 D (SetSO X.prog X.w D [])) s3 := by
    rw [← hs3]
    refine I2.laid (t' := s2.toks) (fun b o e => Heap.get?_push_of_some _ e) (Nat.le_of_eq hD) ?_
    rw [← hD]
    exact setSO_new (SetS.new (Heap.get?_push_size _ rfl))
  have h3 : s3.heap = s2.heap.push (newSet X.w) := by rw [← hs3]
  have sz : ∀ b ∈ fp, b < s2.heap.objs.size := fun b hb => by
    obtain ⟨o, e, _⟩ := T.obj _ _ st2 b hb
    exact Heap.lt_size e
  have f3 : ∀ b ∈ fp, FpOk X pins (upd H2 D (SetSO X.prog X.w D [])) b ∧ b < s3.heap.objs.size := fun b hb => by
    have hlt := sz b hb
    refine ⟨⟨?_, (f2 b hb).2⟩, by rw [h3, Heap.size_push]; exact Nat.lt_succ_of_lt hlt⟩
    rw [upd_ne (by rw [← hD]; exact Nat.ne_of_lt hlt)]
    exact (f2 b hb).1
  have st3 : tn 0 s3.heap := T.keep _ _ _ st2 fun b _ o e => by rw [h3]; exact Heap.get?_push_of_some _ e
  have I4 := block_start I3 ok hN f3
  have pg := hg s3 (upd H2 D (SetSO X.prog X.w D [])) s3.heap.objs.size (cellsFrom (s3.heap.objs.size + 1) scope.names (cloFrom X.env.cells scope.names [])) fp
  have pe := he s3 (upd H2 D (SetSO X.prog X.w D [])) s3.heap.objs.size (cellsFrom (s3.heap.objs.size + 1) scope.names (cloFrom X.env.cells scope.names [])) fp
  show codeAny _ _ (.compStart (.SetComp elt [⟨tg, iter, [], 0⟩] scope pos) 0 (.ref it) (.ref D) (compEnvC scope (cellsFrom (s3.heap.objs.size + 1) scope.names (cloFrom X.env.cells scope.names [])) s3.heap.objs.size X.env)) (compPost (model X.prog X.w) X.A X.xe none (EP X pins σ Q) (.ref D) s3.heap.objs.size) { s3 with heap := pushCells (s3.heap.push { cls := .type "dict", data := .dict #[] }) scope.names }
  have nfp : ∀ b ∈ fp, (upd H2 D (SetSO X.prog X.w D [])) b = none := fun b hb => (f3 b hb).1.1
  generalize hce : compEnvC scope (cellsFrom (s3.heap.objs.size + 1) scope.names (cloFrom X.env.cells scope.names [])) s3.heap.objs.size X.env = ce at I4 pg pe ⊢
  have cL : ce.locals = s3.heap.objs.size := by subst hce; rfl
  generalize hH3 : upd H2 D (SetSO X.prog X.w D []) = H3 at I3 I4 pg pe w0 nfp f3
  generalize hs4 : ({ s3 with heap := pushCells (s3.heap.push { cls := .type "dict", data := .dict #[] }) scope.names } : Shared) = s4 at I4 ⊢
  have st4 : tn 0 s4.heap := T.keep _ _ _ st3 fun b _ o e => by rw [← hs4]; exact pushCells_keeps _ _ _ _ (Heap.get?_push_of_some _ e)
  have stat : ∀ {σ' : L2.St} {H' : Hp} {s' : Shared}, Inv (X.blk s3 H3 scope ce fp) [] σ' H' s' → (∀ b ∈ fp, H' b = none) → ∀ b ∈ fp, FpOk (X.blk s3 H3 scope ce fp) [] H' b := fun {σ' H' s'} I' hn b hb =>
    ⟨hn b hb, (I'.ok.exf b hb).1, I'.ok.exfs b hb, .inl hb, fun x c e => (I'.ok.exf b hb).2 x c e, fun p hp => absurd (show p ∈ ([] : List (Addr × Obj)) ++ [] from hp) (by simp)⟩
  have loop : codeAny (model X.prog X.w) X.A (.compLoop (.SetComp elt [⟨tg, iter, [], 0⟩] scope pos) 0 (.ref it) (.ref D) ce) (compPost (model X.prog X.w) X.A X.xe none (EP X pins σ Q) (.ref D) s3.heap.objs.size) s4 := by
    refine PpSet.compLoopS_any (fun n s' => ∃ i H', Inv (X.blk s3 H3 scope ce fp) [] (wipe σ (own.map (·.2))) H' s' ∧ tn i s'.heap ∧ (∀ b ∈ fp, H' b = none) ∧ W i n H') ?_ m0 ⟨0, H3, I4, st4, nfp, w0⟩
    rintro n s5 ⟨i, H5, I5, st5, n5, w5⟩
    rcases turn i n H5 w5 with ⟨stop, qq⟩ | ⟨go, Nx, hNx, step⟩
    · have td := T.done (X.blk s3 H3 scope ce fp) rfl rfl rfl hc i [] s5 _ H5 (fun _ _ => False) I5 (stat I5 n5) st5 stop
      refine thnF td fun r s6 ⟨hr, I6⟩ => ?_
      subst hr
      have I7 : Inv X pins σ H5 s6 := I3.call' (ch := fp) I6.os I6.base I6.hok I6.bare fun b hb => ⟨(f3 b hb).1.2.2.2.1, (f3 b hb).1.2.1, (f3 b hb).1.2.2.2.2.1, (f3 b hb).1.2.2.2.2.2⟩
      have nC : H5 s3.heap.objs.size = none := by
        have z : H5 ce.locals = none := I6.free
        rw [cL] at z
        exact z
      obtain ⟨m, hn, _⟩ := I6.loc
      have hn : s6.heap.Ns ce.locals m := hn
      rw [cL] at hn
      obtain ⟨g0, g1, g2, g3, g4, g5⟩ := I3.fpOk (Nat.le_refl _) nC
      exact ⟨m, hn, fun h'' sb => ⟨.ref D, H5, I7.turned (t' := s6.toks) (fun b o hb e => (sb.2 b hb).trans e) g0 g1 g3 g4 g5, rfl, qq⟩⟩
    · have ti := T.item (X.blk s3 H3 scope ce fp) rfl rfl rfl hc i [] s5 _ H5 (fun _ _ => False) I5 (stat I5 n5) st5 go
      refine thnF ti fun r s6 ⟨u, hr, h6⟩ => ?_
      subst hr
      refine thnF h6 fun _ s7 ⟨x, H7, I7, r7, y7, st7, n7⟩ => ?_
      have I7' := I7.pinned (stat I7 n7) (T.obj _ _ st7)
      refine thnF (pg.run _ s7 _ H7 x u _ I7' r7 (step x H7 y7)) fun _ s8 ⟨σ8, H8, I8, hw8, q8⟩ => ?_
      show wpAny _ _ (pure true) _ _ s8
      refine wpAny_pure ?_
      simp only [if_true]
      have fin : ∀ {s' : Shared} {H' : Hp}, Inv (X.blk s3 H3 scope ce fp) ([] ++ pinsAt fp s7.heap) σ8 H' s' → Nx H' → ∃ m, m < n ∧ ∃ i H', Inv (X.blk s3 H3 scope ce fp) [] (wipe σ (own.map (·.2))) H' s' ∧ tn i s'.heap ∧ (∀ b ∈ fp, H' b = none) ∧ W i m H' := fun {s' H'} I' nx => by
        obtain ⟨m', hm, w'⟩ := hNx H' nx
        have pin' : ∀ b ∈ fp, ∀ o, s7.heap.get? b = some o → s'.heap.get? b = some o ∧ H' b = none := fun b hb o e =>
          let z := I'.pin (b, o) (List.mem_append_right _ (List.mem_append_right _ (mem_pinsAt hb e)))
          ⟨z.1, z.2.1⟩
        have hl : (wipe σ (own.map (·.2))).length = σ8.length := by rw [← hw8, wipe_length]
        refine ⟨m', hm, i + 1, H', (I'.unpinned (pins := [])).weak hl (fun j v e => ?_), T.keep _ _ _ st7 fun b hb o e => (pin' b hb o e).1, fun b hb => ?_, w'⟩
        · rw [← hw8] at e
          exact (wipe_some e).1
        · obtain ⟨o, e, _⟩ := T.obj _ _ st7 b hb
          exact (pin' b hb o e).2
      refine thnF (pe.run _ s8 σ8 H8 _ I8 q8) fun z s10 ⟨yv, H10, I10, r10, c, l, ey, hD10, hz10, nx⟩ => ?_
      subst ey
      obtain ⟨tk, rfl⟩ := r10
      exact addS_ok (X := X.blk s3 H3 scope ce fp) I10 hD10 hz10 fun s11 I11 => fin I11 nx
  exact PpSet.codeAny_compStart_set loop (T.self X.A 0 _ _ _ st4 loop)
variable {α : Type} {σ : L2.St} {H : Hp} {elt tg iter : Expr} {pos : Pos} {l : List α} {E : α → D}
theorem evst_sc {scope : Scope} {own : List (Str × Nat)} {g : TG} (f : α → Str) (hN : X.N.Nodup) (ok : BlkOk X.N X.env.scope scope own) (hi : EvI X σ H tg iter (l.map E)) (hz : l.length ≤ 1000)
    (hg : ∀ s H C cl fp, PG (Bk X scope s H C cl fp) tg g) (hm : GMono g)
    (hs : ∀ d ∈ l, ∀ v H1, Ext H H1 → Is X.K H1 v (E d) → g v (wipe σ (own.map (·.2))) H1 fun σ2 H2 => H2 = H1 ∧ wipe σ2 (own.map (·.2)) = wipe σ (own.map (·.2)) ∧
      (∀ s H' C cl fp, Ev (Bk X scope s H' C cl fp) σ2 H1 elt (.str (f d))))
    (hc : X.calm = true := by rfl) (hf : ∀ x, foldedSetIterable iter X.env x = pure x := by intro _; rfl) :
    EvSt X σ H (.SetComp elt [⟨tg, iter, [], 0⟩] scope pos) (addAllS (l.map f)) := fun H1 e1 Q k => by
  refine WE.of (pe_ss hc hN WI.pi ok hg (te := bkE X scope elt) (fun s H C cl fp => ⟨fun pins s' σ H Q I h => (h _ _ _ _ _).run pins s' I⟩) hf) ?_
  refine hi H1 e1 _ fun J Hb e2 y Dl hD => ?_
  refine ⟨fun i m H => m = l.length - i ∧ i ≤ l.length ∧ Ext Hb H ∧ H Dl = some (SetSO X.prog X.w Dl (addAllS ((l.take i).map f))), ⟨l.length, by simp, Nat.zero_le _, Ext.new hD, upd_same⟩, ?_⟩
  rintro i m H ⟨rfl, hi, p1, p2⟩
  by_cases hlt : i < l.length
  · refine .inr ⟨y.go i H p1 (by rw [List.length_map]; exact hlt), fun H' => Ext Hb H' ∧ H' Dl = some (SetSO X.prog X.w Dl (addAllS ((l.take (i + 1)).map f))), fun H' p' => ⟨l.length - (i + 1), by omega, rfl, hlt, p'⟩, fun x H' yy => ?_⟩
    have hd : l[i]? = some l[i] := List.getElem?_eq_getElem hlt
    obtain ⟨e3, v1⟩ := y.yld i H x H' (E l[i]) p1 (by rw [List.getElem?_map, hd]; rfl) yy
    refine hm x _ H' _ _ (fun σ2 H2 ⟨q1, q2, q3⟩ => ?_) (hs l[i] (List.getElem_mem hlt) x H' ((e1.trans e2).trans (p1.trans e3)) v1)
    subst q1
    refine ⟨q2, fun s H' C cl fp => q3 s H' C cl fp _ (Ext.refl _) _ fun z H6 e6 hz' => ?_⟩
    cases hz'
    have len := addAllS_len (xs := (l.take i).map f)
    rw [List.length_map, List.length_take] at len
    refine ⟨f l[i], _, rfl, e6 _ _ (e3 _ _ p2), by unfold scanBound; omega, ((p1.trans e3).trans e6).mut hD, ?_⟩
    rw [upd_same, List.take_succ, hd, List.map_append]
    show some (SetSO X.prog X.w Dl (addS (f l[i]) (addAllS ((l.take i).map f)))) = some (SetSO X.prog X.w Dl (addAllS ((l.take i).map f ++ [f l[i]])))
    rw [addAllS_snoc]
  · have e : i = l.length := by omega
    subst e
    have st := y.stop H p1
    rw [List.length_map] at st
    rw [List.take_length] at p2
    exact .inl ⟨st, k Dl H (e2.trans p1) p2⟩
end
end Wb
/-! are_rooms. -/
namespace Wb
open PySem PySem.Spec L2
section
variable {P : Program} {w : World} {K : PySem.W.Frag} {mg : Str → Option Value} {base : Heap}
def Rrooms : List D → D → Prop := fun ds d => ∃ l : List Str, (∀ x ∈ l, IsWord x) ∧ l.Nodup ∧ l.length ≤ 50 ∧ ds = [.lst (l.map D.str)] ∧ d = .bl true
abbrev N_are_rooms : List Str := ["value", "room"]
theorem kp_are_rooms (T : Top w K mg) : Kp P w K mg base "are_rooms" ["value"] [] 2 (spD K Rrooms) := by
  have hN : N_are_rooms.Nodup := by decide +kernel
  refine kp_d (N := N_are_rooms) T 6 rfl ⟨rfl, rfl, rfl, hN, rfl, by decide +kernel, by decide +kernel⟩ (fun _ _ _ _ _ _ us hl => match us, hl with | [_], _ => rfl) (fun ds d ⟨l, _, _, _, h, _⟩ => by rw [h]; rfl) ?_
  rintro cdv A outer s H vs ds d Q E hr hv ⟨l, wl, nd, hl, rfl, rfl⟩ k
  obtain ⟨v0, rfl, h0⟩ := isAll1 hv
  have hu := hr.units
  refine wss_cons (ws_skip (EvW.t ?_) fun H1 e1 => ?_)
  · refine EvW.is (evw_or (c := false) (d := false) (evt_not (c := true) (evt_val (ev_isi T.f_isinstance T.f_list PyProof.Rows.boot_list (ev_v 0 h0) k_ll))) fun _ => ?_) rfl
    refine evw_or1 (EvT.is (evt_not (c := true) (evt_val ?_)) rfl)
    refine Ev.is (ev_allB (bs := l.map fun _ => true) rfl T.f_all (Ev.is (ev_lcN (l := l) (E := D.str) (own := [("room", 1)]) (g := gName 1) (fun _ => .bl true) rfl hN (blkOk_by (by kernel_rfl)) (EvIB.i (evi_list (evb_v 0 h0) (Ext.refl _)) (Ext.refl _)) (Nat.le_trans hl (by decide)) (fun _ _ _ _ _ => pgn 1 hN) gm_name ?_ (fun _ _ => noLst_bl _)) (by rw [List.map_map]; rfl))) (by simp)
    intro j hj v1 H1 e1 i1
    exact ⟨rfl, rfl, fun _ _ _ _ _ => ev_call (kp_is_spelt T) (hr.mono (by decide)) (eva_cons (ev_v 1 i1) eva_nil) (.inl ⟨j, rfl, wl j hj, rfl⟩)⟩
  · refine wss_one (ws_ret (Ev.is (ev_eqI (ev_lenSt T.f_len (evst_set (xs := l) T.f_set (ev_v 0 (h0.mono e1)) (by omega)) (Nat.le_trans addAllS_len (by omega))) (ev_lenL T.f_len (ev_v 0 (h0.mono e1)))) ?_) fun v H2 e2 hv => k v H2 (e1.trans e2) hv)
    rw [addAllS_full nd, List.length_map, decide_eq_true rfl]
end
end Wb
/-! Manual(..). -/
namespace Wb
open PySem PySem.Spec L2

/-- all but the instances stays -/
def ExtI (H H' : Hp) : Prop := ∀ a o, H a = some o → (∀ C dx fs, o ≠ .ins C dx fs) → H' a = some o
theorem Ext.i {H H' : Hp} (e : Ext H H') : ExtI H H' := fun a o h _ => e a o h
theorem ExtI.trans {H H1 H2 : Hp} (e : ExtI H H1) (f : ExtI H1 H2) : ExtI H H2 := fun a o h n => f a o (e a o h n) n
theorem ExtI.upd {H : Hp} {x C dx : Addr} {fs : List (Str × V)} {o : HO} (h : H x = some (.ins C dx fs)) : ExtI H (L2.upd H x o) := fun a u ha hn => by
  rw [upd_ne (fun e => by subst e; rw [h] at ha; cases ha; exact hn _ _ _ rfl)]; exact ha
section
variable {K : PySem.W.Frag} {H H' : Hp}
theorem sqT_keepI {a : Addr} {xs : List V} (e : ExtI H H') (h : SqT K H a xs) : SqT K H' a xs := by
  rcases h with (h | ⟨o, h⟩) | h
  · exact .inl (.inl (e _ _ h fun _ _ _ q => nomatch q))
  · exact .inl (.inr ⟨o, e _ _ h fun _ _ _ q => nomatch q⟩)
  · exact .inr h
mutual
theorem Is.keepI (e : ExtI H H') : ∀ {v : V} {d : D}, Is K H v d → plainD d = true → Is K H' v d
  | _, _, .non, _ => .non
  | _, _, .bl b, _ => .bl b
  | _, _, .int i, _ => .int i
  | _, _, .str x, _ => .str x
  | _, _, .tup h t, n => .tup (sqT_keepI e h) (IsAll.keepI e t (by rw [plainD] at n; exact n))
  | _, _, .lst h t, n => .lst (e _ _ h fun _ _ _ q => nomatch q) (IsAll.keepI e t (by rw [plainD] at n; exact n))
  | _, _, .dct _ _ _ _, n => by rw [plainD] at n; cases n
  | _, _, .rng _, n => by rw [plainD] at n; cases n
  | _, _, .ty _, n => by rw [plainD] at n; cases n
  | _, _, .obj _, n => by rw [plainD] at n; cases n
  | _, _, .man _ _ _ _ _, n => by rw [plainD] at n; cases n
theorem IsAll.keepI (e : ExtI H H') : ∀ {vs : List V} {ds : List D}, IsAll K H vs ds → plainDs ds = true → IsAll K H' vs ds
  | _, _, .nil, _ => .nil
  | _, _, .cons h t, n => by
    rw [plainDs, Bool.and_eq_true] at n
    exact .cons (Is.keepI e h n.1) (IsAll.keepI e t n.2)
end
end

section
variable {X : Cx} {σ : L2.St} {H B : Hp} {value : Expr} {pos pos' : Pos} {Dn : Ends}
/-- self.f = value -/
theorem ws_fld {x C dx : Addr} {f self : Str} {fs : List (Str × V)} (R : V → Hp → Prop) (hB : B x = none) (e : Ext B H) (hx : H x = some (.ins C dx fs)) (hc : Cls X.K C) (hn : NoAttr X.K C f) (hl : fs.length < 1000) (h0 : σ[0]? = some (some (.ref x)))
    (h : ∀ Q : VK, (∀ v H1, Ext H H1 → R v H1 → Q v H1) → WE X value σ H Q)
    (k : ∀ v H1, Ext H H1 → R v H1 → Ext B (upd H1 x (.ins C dx (putF f v fs))) → ExtI H1 (upd H1 x (.ins C dx (putF f v fs))) → Dn.nx σ (upd H1 x (.ins C dx (putF f v fs))))
    (hN : X.N[0]? = some self := by rfl) (hv : Vis X.env.scope self := by first | exact Or.inl rfl | exact Or.inr (Or.inl rfl) | exact Or.inr (Or.inr rfl)) (hd : (self == ("__debug__" : Str)) = false := by decide) (hcd : (self == ("__classdict__" : Str)) = false := by decide)
    {pos2 : Pos} (hs : swapsWith value (some (.Attribute (.Name self pos2) f pos')) pos.line X.env = pure false := by rfl) : WS X (.Assign [.Attribute (.Name self pos2) f pos'] value pos) Dn σ H :=
  WS.of (ps_fld WE.pe WE.pe hs) (h _ fun v H1 e1 r => WE.of (pe_var hN hv hd hcd) ⟨.ref x, h0, x, C, dx, fs, rfl, e1 _ _ hx, hc, hn, hl, k v H1 e1 r
    (fun a o ha => by
      rw [upd_ne (fun z => by subst z; rw [hB] at ha; cases ha)]
      exact e1 _ _ (e _ _ ha)) (ExtI.upd (e1 _ _ hx))⟩)
end
structure MkOk (S : List Str) (rows : List Mnr) (fs ls : List Str) : Prop where
  rowN : rows.Nodup
  few : rows.length < 15
  rowW : ∀ r ∈ rows, WfX r
  fN : fs.Nodup
  lN : ls.Nodup
  fW : ∀ r ∈ fs, IsWord r
  lW : ∀ r ∈ ls, IsWord r
  fF : fs.length ≤ 10
  lF : ls.length ≤ 10
structure ManOf (m : Mn) (rows : List Mnr) (fs ls : List Str) : Prop where
  pR : m.rows.Perm rows
  pF : m.firsts.Perm fs
  pL : m.lasts.Perm ls
  nd : m.rooms.Nodup
  so : PyProof.Rows.sortedS m.rooms = true
  mem : ∀ r, r ∈ m.rooms ↔ r ∈ rows.map Mnr.room ∨ r ∈ rows.map Mnr.other ∨ r ∈ fs ∨ r ∈ ls

def spM (K : PySem.W.Frag) : Sp := fun vs H Q _ => ∃ (x dx : Addr) (B : Hp) (v1 v2 v3 : V) (S : List Str) (rows : List Mnr) (fs ls : List Str), vs = [.ref x, v1, v2, v3] ∧ B x = none ∧ Ext B H ∧ H x = some (.ins (He.ga K "Manual") dx []) ∧
  Is K B v1 (.lst (rows.map Mnr.d)) ∧ Is K B v2 (.lst (fs.map D.str)) ∧ Is K B v3 (.lst (ls.map D.str)) ∧ MkOk S rows fs ls ∧ ∀ H' m, Ext B H' → ManOf m rows fs ls → Is K H' (.ref x) (.man m) → Q .non H'
abbrev N_init : List Str := ["self", "manners", "beginnings", "ends", "some", "found", "manner"]
section
variable {P : Program} {w : World} {K : PySem.W.Frag} {mg : Str → Option Value} {base : Heap}
theorem init_ok (T : Top w K mg) : ∃ fd, FnOk P w K mg base CX0 6 (He.ma K (He.ga K "Manual") "__init__") fd ["self", "manners", "beginnings", "ends"] (spM K) ∧ Binds K fd ["self", "manners", "beginnings", "ends"] [] := by
  obtain ⟨fd, F⟩ := T.dfn 7 _ rfl
  refine ⟨fd, ?_, FunD.bindsN F (fun _ _ _ _ _ _ us hl => match us, hl with | [_, _, _, _], _ => rfl)⟩
  refine FunD.ok (N := N_init) F ⟨rfl, rfl, rfl, by decide +kernel, rfl, by decide +kernel, by decide +kernel⟩ (fun vs H Q E ⟨_, _, _, _, _, _, _, _, _, _, h, _⟩ => by rw [h]; rfl) fun cdv A outer s H vs Q E hr h => ⟨_, PSs.nox WSs.pss, ?_⟩
  obtain ⟨x, dx, B, v1, v2, v3, S, rows, fs, ls, rfl, hB, eB, hx, i1, i2, i3, ok, k⟩ := h
  have hN : N_init.Nodup := by decide +kernel
  have hu := hr.units
  have h1 := i1.mono eB
  have h2 := i2.mono eB
  have h3 := i3.mono eB
  show WSs (cxOf CX0 P w K mg base N_init "Manual.__init__" (defScope s_Manual_init) (He.ma K (He.ga K "Manual") "__init__") cdv A outer s H E).nox (defBody s_Manual_init) { nx := fun _ H' => Q .non H', rt := Q } [some (.ref x), some v1, some v2, some v3, none, none, none] H
  refine wss_cons (ws_skip (EvW.t ?_) fun Ha ea => ?_)
  · refine EvW.is (evw_or (c := false) (d := false) (evt_not (c := true) (evt_val (ev_isi T.f_isinstance T.f_list PyProof.Rows.boot_list (ev_v 1 h1) k_ll))) fun _ => ?_) rfl
    refine evw_or1 (EvT.is (evt_not (c := true) (evt_val ?_)) rfl)
    refine Ev.is (ev_allB (bs := rows.map fun _ => true) rfl T.f_all (Ev.is (ev_lcN (l := rows) (E := Mnr.d) (own := [("manner", 6)]) (g := gName 6) (fun _ => .bl true) rfl hN (blkOk_by (by kernel_rfl)) (EvIB.i (evi_list (evb_v 1 h1) (Ext.refl _)) (Ext.refl _)) (Nat.le_trans (Nat.le_of_lt ok.few) (by decide)) (fun _ _ _ _ _ => pgn 6 hN) gm_name ?_ (fun _ _ => noLst_bl _)) (by rw [List.map_map]; rfl))) (by simp)
    intro j hj v1 H1 e1 i1
    exact ⟨rfl, rfl, fun _ _ _ _ _ => ev_call (kp_is_manner T) (hr.mono (by decide)) (eva_cons (ev_v 6 i1) eva_nil) ⟨j, ok.rowW j hj, rfl, rfl⟩⟩
  have h1 := h1.mono ea
  have h2 := h2.mono ea
  have h3 := h3.mono ea
  have eB := eB.trans ea
  have hx := ea _ _ hx
  refine wss_cons (ws_skip (EvT.is (evt_neI (ev_lenSetN T.f_len T.f_set (by have := room65 hr; exact Nat.lt_of_succ_lt this) (ev_v 1 h1) ok.rowN ok.few) (ev_lenL T.f_len (ev_v 1 h1))) (by rw [List.length_map, decide_eq_true rfl]; rfl)) fun Hb eb => ?_)
  have h1 := h1.mono eb
  have h2 := h2.mono eb
  have h3 := h3.mono eb
  have eB := eB.trans eb
  have hx := eb _ _ hx
  refine wss_cons (ws_forI PassesOwn.never rfl (evi_tupF (ev_tup (eva_cons (ev_v 2 h2) (eva_cons (ev_v 3 h3) eva_nil)) (by show 2 ≤ 100000; decide))) (pgn 4 hN) (fun B' i σ' H' => Ext Hb H' ∧ ∃ x4, σ' = [some (.ref x), some v1, some v2, some v3, x4, none, none]) (fun B' H4 e4 e5 => ⟨e4.trans e5, none, rfl⟩) ?_ ?_)
  · rintro B' i d σ' H' v H'' hd e4 ⟨e5, x4, rfl⟩ e6 hv
    have hl : ∃ l : List Str, (∀ r ∈ l, IsWord r) ∧ l.Nodup ∧ l.length ≤ 50 ∧ d = .lst (l.map D.str) := by
      match i, hd with
      | 0, hd => cases hd; exact ⟨fs, ok.fW, ok.fN, Nat.le_trans ok.fF (by decide), rfl⟩
      | 1, hd => cases hd; exact ⟨ls, ok.lW, ok.lN, Nat.le_trans ok.lF (by decide), rfl⟩
    obtain ⟨l, l1, l2, l3, rfl⟩ := hl
    refine wss_one (ws_skip (evt_not (c := true) (evt_val (ev_call (kp_are_rooms T) (hr.mono (by decide)) (eva_cons (ev_v 4 hv) eva_nil) ⟨l, l1, l2, l3, rfl, rfl⟩))) fun H1 e1 => ⟨e4.trans (e6.trans e1), e5.trans (e6.trans e1), some v, rfl⟩)
  · rintro B' σ' Hc e4 ⟨ec, x4, rfl⟩
    have h1 := h1.mono ec
    have h2 := h2.mono ec
    have h3 := h3.mono ec
    have eB := eB.trans ec
    have hx := ec _ _ hx
    -- rows
    refine wss_cons (ws_fld (fun v H1 => ∃ rows' : List Mnr, rows'.Perm rows ∧ Is K H1 v (.lst (rows'.map Mnr.d))) hB eB hx T.manC (T.manN "rows" (by decide)) (by decide) rfl
      (fun Q q => we_sortD T.f_sorted (by have := room65 hr; exact Nat.lt_of_succ_lt this) (ev_v 1 h1) (sortOk_rows rows) (by rw [List.length_map]; exact Nat.le_trans (Nat.le_of_lt ok.few) (by decide)) fun v H2 ds' e2 pm iv => by
        obtain ⟨r', p', rfl⟩ := perm_rows pm
        exact q v H2 e2 ⟨r', p', iv⟩)
      fun a1 H1 e1 ⟨rows', pR, j1⟩ eB1 x1 => ?_)
    have pl1 : plainD (.lst (rows'.map Mnr.d)) = true := by rw [plainD]; exact plain_map fun y _ => plain_mnr y
    have j1 := j1.keepI x1 pl1
    have hx1 := @upd_same H1 x (.ins (He.ga K "Manual") dx (putF "rows" a1 []))
    generalize upd H1 x (.ins (He.ga K "Manual") dx (putF "rows" a1 [])) = G1 at eB1 x1 j1 hx1 ⊢
    -- firsts
    refine wss_cons (ws_fld (fun v H1 => ∃ l : List Str, l.Perm fs ∧ Is K H1 v (.lst (l.map D.str))) hB eB1 hx1 T.manC (T.manN "firsts" (by decide)) (by show 1 < 1000; decide) rfl
      (fun Q q => we_sortS T.f_sorted (ev_v 2 (i2.mono eB1)) (by have := ok.fF; omega) fun v H2 ys e2 pm _ iv => q v H2 e2 ⟨ys, pm, iv⟩) fun a2 H2 e2 ⟨fs', pF, j2⟩ eB2 x2 => ?_)
    have pls : ∀ l : List Str, plainD (.lst (l.map D.str)) = true := fun l => by rw [plainD]; exact plain_map fun _ _ => rfl
    have j1 := (j1.mono e2).keepI x2 pl1
    have j2 := j2.keepI x2 (pls _)
    have hx2 := @upd_same H2 x (.ins (He.ga K "Manual") dx (putF "firsts" a2 (putF "rows" a1 [])))
    generalize upd H2 x (.ins (He.ga K "Manual") dx (putF "firsts" a2 (putF "rows" a1 []))) = G2 at eB2 x2 j1 j2 hx2 ⊢
    -- lasts
    refine wss_cons (ws_fld (fun v H1 => ∃ l : List Str, l.Perm ls ∧ Is K H1 v (.lst (l.map D.str))) hB eB2 hx2 T.manC (T.manN "lasts" (by decide)) (by show 2 < 1000; decide) rfl
      (fun Q q => we_sortS T.f_sorted (ev_v 3 (i3.mono eB2)) (by have := ok.lF; omega) fun v H2 ys e2 pm _ iv => q v H2 e2 ⟨ys, pm, iv⟩) fun a3 H3 e3 ⟨ls', pL, j3⟩ eB3 x3 => ?_)
    have j1 := (j1.mono e3).keepI x3 pl1
    have j2 := (j2.mono e3).keepI x3 (pls _)
    have j3 := j3.keepI x3 (pls _)
    have hx3 := @upd_same H3 x (.ins (He.ga K "Manual") dx (putF "lasts" a3 (putF "firsts" a2 (putF "rows" a1 []))))
    generalize upd H3 x (.ins (He.ga K "Manual") dx (putF "lasts" a3 (putF "firsts" a2 (putF "rows" a1 [])))) = G3 at eB3 x3 j1 j2 j3 hx3 ⊢
    -- found
    refine wss_cons (ws_set hN (Ev.is (ev_catL (xs := (rows.map Mnr.room).map D.str) (ys := (rows.map Mnr.other).map D.str)
      (Ev.is (ev_lcN (l := rows) (E := Mnr.d) (own := [("manner", 6)]) (g := gName 6) (fun y => .str y.room) rfl hN (blkOk_by (by kernel_rfl)) (EvIB.i (evi_list (evb_v 1 (i1.mono eB3)) (Ext.refl _)) (Ext.refl _)) (Nat.le_trans (Nat.le_of_lt ok.few) (by decide)) (fun _ _ _ _ _ => pgn 6 hN) gm_name (fun y hy v6 H4 e4 i6 => ⟨rfl, rfl, fun _ _ _ _ _ => ev_ixTc 0 (d := .str y.room) rfl (ev_v 6 (show Is K H4 v6 (.tup [.str y.room, .str y.job, .str y.other, y.eff.d]) from i6))⟩) (fun _ _ => rfl)) (by rw [List.map_map]; rfl))
      (Ev.is (ev_lcN (l := rows) (E := Mnr.d) (own := [("manner", 6)]) (g := gName 6) (fun y => .str y.other) rfl hN (blkOk_by (by kernel_rfl)) (EvIB.i (evi_list (evb_v 1 (i1.mono eB3)) (Ext.refl _)) (Ext.refl _)) (Nat.le_trans (Nat.le_of_lt ok.few) (by decide)) (fun _ _ _ _ _ => pgn 6 hN) gm_name (fun y hy v6 H4 e4 i6 => ⟨rfl, rfl, fun _ _ _ _ _ => ev_ixTc 2 (d := .str y.other) rfl (ev_v 6 (show Is K H4 v6 (.tup [.str y.room, .str y.job, .str y.other, y.eff.d]) from i6))⟩) (fun _ _ => rfl)) (by rw [List.map_map]; rfl))
      (by rw [List.length_map, List.length_map, List.length_map, List.length_map]; have := ok.few; omega)) (by rw [← List.map_append])) (i := 5) fun v5 G4 f4 i5 => ?_)
    have eB4 := eB3.trans f4
    have j1 := j1.mono f4
    have j2 := j2.mono f4
    have j3 := j3.mono f4
    have hx4 := f4 _ _ hx3
    -- rooms
    have lA : (rows.map Mnr.room ++ rows.map Mnr.other ++ fs ++ ls).length < 49 := by
      rw [List.length_append, List.length_append, List.length_append, List.length_map, List.length_map]
      have := ok.few; have := ok.fF; have := ok.lF; omega
    refine wss_cons (ws_fld (fun v H1 => ∃ l : List Str, l.Perm (addAllS (rows.map Mnr.room ++ rows.map Mnr.other ++ fs ++ ls)) ∧ PyProof.Rows.sortedS l = true ∧ Is K H1 v (.lst (l.map D.str))) hB eB4 hx4 T.manC (T.manN "rooms" (by decide)) (by show 3 < 1000; decide) rfl
      (fun Q q => we_sortSt T.f_sorted (evst_set T.f_set (Ev.is (ev_catL (xs := (rows.map Mnr.room ++ rows.map Mnr.other ++ fs).map D.str) (ys := ls.map D.str)
        (Ev.is (ev_catL (xs := (rows.map Mnr.room ++ rows.map Mnr.other).map D.str) (ys := fs.map D.str) (ev_v 5 i5) (ev_v 2 (i2.mono eB4)) (by rw [List.length_map, List.length_map]; rw [List.length_append, List.length_append] at lA; omega)) (by rw [← List.map_append])) (ev_v 3 (i3.mono eB4))
        (by rw [List.length_map, List.length_map]; rw [List.length_append] at lA; omega)) (by rw [← List.map_append])) (by omega)) (Nat.lt_of_le_of_lt addAllS_len (by omega)) fun v H2 ys e2 pm so iv => q v H2 e2 ⟨ys, pm, so, iv⟩) fun a4 H4 e4 ⟨rms, p4, so4, j4⟩ eB5 x4 => ?_)
    have j1 := (j1.mono e4).keepI x4 pl1
    have j2 := (j2.mono e4).keepI x4 (pls _)
    have j3 := (j3.mono e4).keepI x4 (pls _)
    have j4 := j4.keepI x4 (pls _)
    have hx5 := @upd_same H4 x (.ins (He.ga K "Manual") dx (putF "rooms" a4 (putF "lasts" a3 (putF "firsts" a2 (putF "rows" a1 [])))))
    generalize upd H4 x (.ins (He.ga K "Manual") dx (putF "rooms" a4 (putF "lasts" a3 (putF "firsts" a2 (putF "rows" a1 []))))) = G5 at eB5 x4 j1 j2 j3 j4 hx5 ⊢
    -- jobs
    refine wss_one (ws_fld (fun v H1 => ∃ l : List Str, Is K H1 v (.lst (l.map D.str))) hB eB5 hx5 T.manC (T.manN "jobs" (by decide)) (by show 4 < 1000; decide) rfl
      (fun Q q => we_sortSt T.f_sorted (evst_sc (l := rows) (E := Mnr.d) (own := [("manner", 6)]) (g := gName 6) (fun y => y.job) hN (blkOk_by (by kernel_rfl)) (EvIB.i (evi_list (evb_v 1 (i1.mono eB5)) (Ext.refl _)) (Ext.refl _)) (Nat.le_trans (Nat.le_of_lt ok.few) (by decide)) (fun _ _ _ _ _ => pgn 6 hN) gm_name (fun y hy v6 H4 e4 i6 => ⟨rfl, rfl, fun _ _ _ _ _ => ev_ixTc 1 (d := .str y.job) rfl (ev_v 6 (show Is K H4 v6 (.tup [.str y.room, .str y.job, .str y.other, y.eff.d]) from i6))⟩)) (Nat.lt_of_le_of_lt addAllS_len (by rw [List.length_map]; have := ok.few; omega)) fun v H2 ys e2 _ _ iv => q v H2 e2 ⟨ys, iv⟩) fun a5 H5 e5 ⟨_, j5⟩ eB6 x5 => ?_)
    have j1 := (j1.mono e5).keepI x5 pl1
    have j2 := (j2.mono e5).keepI x5 (pls _)
    have j3 := (j3.mono e5).keepI x5 (pls _)
    have j4 := (j4.mono e5).keepI x5 (pls _)
    have j5 := j5.keepI x5 (pls _)
    have hx6 := @upd_same H5 x (.ins (He.ga K "Manual") dx (putF "jobs" a5 (putF "rooms" a4 (putF "lasts" a3 (putF "firsts" a2 (putF "rows" a1 []))))))
    generalize upd H5 x (.ins (He.ga K "Manual") dx (putF "jobs" a5 (putF "rooms" a4 (putF "lasts" a3 (putF "firsts" a2 (putF "rows" a1 [])))))) = G6 at eB6 x5 j1 j2 j3 j4 j5 hx6 ⊢
    refine k G6 ⟨rows', fs', ls', rms⟩ eB6 ⟨pR, pF, pL, p4.nodup_iff.mpr addAllS_nd, so4, fun r => ?_⟩ ?_
    · rw [p4.mem_iff, addAllS_mem, List.mem_append, List.mem_append, List.mem_append, or_assoc, or_assoc]
    · cases j1 with
      | lst k1 k1' => cases j2 with
        | lst k2 k2' => cases j3 with
          | lst k3 k3' => cases j4 with
            | lst k4 k4' => cases j5 with
              | lst k5 k5' => exact .man hx6 (.lst k1 k1') (.lst k2 k2') (.lst k3 k3') (.lst k4 k4')

theorem we_man {X : Cx} {σ : L2.St} {H : Hp} {e1 e2 e3 : Expr} {pos p : Pos} {Q : VK} {S : List Str} {rows : List Mnr} {fs ls : List Str} (T : Top X.w X.K X.mg) (hr : Room 7 X.A) (h1 : Ev X σ H e1 (.lst (rows.map Mnr.d))) (h2 : Ev X σ H e2 (.lst (fs.map D.str))) (h3 : Ev X σ H e3 (.lst (ls.map D.str))) (ok : MkOk S rows fs ls)
    (k : ∀ v H2 m, Ext H H2 → ManOf m rows fs ls → Is X.K H2 v (.man m) → Q v H2) (hg : Gl X "Manual" := by rfl) (hs : ([e1, e2, e3]).all noStar = true := by rfl) : WE X (.Call (.Name "Manual" p) [e1, e2, e3] [] pos) σ H Q := by
  obtain ⟨fd, F, B⟩ := init_ok (P := X.prog) (base := X.base) T
  obtain ⟨s1, s2⟩ := Bool.and_eq_true_iff.mp (show (noStar e1 && [e2, e3].all noStar) = true from hs)
  obtain ⟨s3, s4⟩ := Bool.and_eq_true_iff.mp (show (noStar e2 && [e3].all noStar) = true from s2)
  obtain ⟨s5, _⟩ := Bool.and_eq_true_iff.mp (show (noStar e3 && [].all noStar) = true from s4)
  refine WE.of (pe_make T.manM F hr hg T.c_man B .nil pass0 WA.pa (by decide) (star_cons s1) (star_none s2)) (eva_cons h1 (eva_cons h2 (eva_cons h3 eva_nil s5) s3) s1 H (Ext.refl _) _ fun vs H1 e1 hv => ?_)
  intro x dx hx hdx hne
  cases hv with
  | cons v1 hv => cases hv with
    | cons v2 hv => cases hv with
      | cons v3 hv =>
        cases hv
        have eB : Ext H1 (upd (upd H1 dx (.own x)) x (.ins (He.ga X.K "Manual") dx [])) := (Ext.new hdx).trans (Ext.new (by rw [upd_ne (fun z => hne z.symm)]; exact hx))
        exact ⟨x, dx, H1, _, _, _, S, rows, fs, ls, rfl, hx, eB, upd_same, v1, v2, v3, ok, fun H' m eH mo im => ⟨rfl, k _ H' m (e1.trans eH) mo im⟩⟩
end
end Wb
/-! The purse: what a draw changes, what stays. -/
namespace Wb
open PySem PySem.Spec L2

/-- four ints -/
def four : List D → Bool
  | [.int _, .int _, .int _, .int _] => true
  | _ => false
mutual
/-- no list of four ints in it -/
def offI : D → Bool
  | .lst ds => !four ds && offIs ds
  | .tup ds => offIs ds
  | _ => true
def offIs : List D → Bool
  | [] => true
  | d :: ds => offI d && offIs ds
end
theorem offIs_all : ∀ {ds : List D}, (∀ d ∈ ds, offI d = true) → offIs ds = true
  | [], _ => by rw [offIs]
  | d :: ds, h => by rw [offIs, h d (.head _), offIs_all fun e m => h e (.tail _ m)]; rfl
theorem four_hd {d : D} {ds : List D} (h : ∀ i, d ≠ .int i) : four (d :: ds) = false := by
  cases d with
  | int i => exact absurd rfl (h i)
  | _ => cases ds with
    | nil => rfl
    | cons a ds => rfl
theorem off_lst {ds : List D} (h : ∀ d ∈ ds, offI d = true ∧ ∀ i, d ≠ .int i) : offI (.lst ds) = true := by
  rw [offI, offIs_all fun d hd => (h d hd).1]
  cases ds with
  | nil => rfl
  | cons d ds => rw [four_hd (h d (.head _)).2]; rfl
theorem off_strs (l : List Str) : offI (.lst (l.map D.str)) = true := off_lst fun d hd => by
  obtain ⟨x, _, rfl⟩ := List.mem_map.mp hd
  exact ⟨by rw [offI]; all_goals simp, fun i h => by cases h⟩
theorem off_mnr (x : Mnr) : offI x.d = true := by
  obtain ⟨r, j, o, e⟩ := x
  cases e <;> simp [Mnr.d, Eff.d, offI, offIs]
theorem off_rows (l : List Mnr) : offI (.lst (l.map Mnr.d)) = true := off_lst fun d hd => by
  obtain ⟨x, _, rfl⟩ := List.mem_map.mp hd
  exact ⟨off_mnr x, fun i h => by cases h⟩

/-- the purse at p, n draws done at most -/
structure Purse (p : Addr) (n : Nat) (H : Hp) : Prop where
  at_ : ∃ a b t c : Int, H p = some (.lst [.int a, .int b, .int t, .int c]) ∧ 0 ≤ a ∧ 0 ≤ b ∧ b < 2147483629 ∧ 0 ≤ t ∧ t ≤ n ∧ 0 ≤ c ∧ c ≤ 10
theorem Purse.mono {p : Addr} {n m : Nat} {H : Hp} (h : Purse p n H) (l : n ≤ m) : Purse p m H := by
  obtain ⟨a, b, t, c, h1, h2, h3, h4, h5, h6, h7⟩ := h.at_
  exact ⟨a, b, t, c, h1, h2, h3, h4, h5, by omega, h7⟩
theorem Purse.ext {p : Addr} {n : Nat} {H H' : Hp} (h : Purse p n H) (e : Ext H H') : Purse p n H' := by
  obtain ⟨a, b, t, c, h1, h2⟩ := h.at_
  exact ⟨a, b, t, c, e _ _ h1, h2⟩
section
variable {K : PySem.W.Frag} {H : Hp} {p : Addr} {a b t c : Int}
theorem sqT_off {x : Addr} {xs : List V} {ys : List V} (hp : H p = some (.lst ys)) (h : SqT K H x xs) : SqT K (wo H p) x xs := by
  rcases h with (h | ⟨o, h⟩) | h
  · exact .inl (.inl (by rw [wo_ne (fun e => by subst e; rw [hp] at h; cases h)]; exact h))
  · exact .inl (.inr ⟨o, by rw [wo_ne (fun e => by subst e; rw [hp] at h; cases h)]; exact h⟩)
  · exact .inr h
mutual
theorem Is.off (hp : H p = some (.lst [.int a, .int b, .int t, .int c])) : ∀ {v : V} {d : D}, Is K H v d → offI d = true → Is K (wo H p) v d
  | _, _, .non, _ => .non
  | _, _, .bl b, _ => .bl b
  | _, _, .int i, _ => .int i
  | _, _, .str x, _ => .str x
  | _, _, .tup h t, n => .tup (sqT_off hp h) (IsAll.off hp t (by rw [offI] at n; exact n))
  | _, _, @Is.lst _ _ x xs ds h t, n => by
    rw [offI, Bool.and_eq_true] at n
    have hne : x ≠ p := fun e => by
      subst e
      rw [hp] at h
      cases h
      cases t with
      | cons h1 t => cases h1; cases t with
        | cons h2 t => cases h2; cases t with
          | cons h3 t => cases h3; cases t with
            | cons h4 t => cases h4; cases t; exact absurd n.1 (by show ¬ (false = true); decide)
    exact .lst (by rw [wo_ne hne]; exact h) (IsAll.off hp t n.2)
  | _, _, .dct h r1 r2 r3, n => .dct (by rw [wo_ne (fun e => by subst e; rw [hp] at h; cases h)]; exact h) r1 r2 r3
  | _, _, .rng h, n => .rng (by rw [wo_ne (fun e => by subst e; rw [hp] at h; cases h)]; exact h)
  | _, _, .ty n, _ => .ty n
  | _, _, .obj a, _ => .obj a
  | _, _, .man h h1 h2 h3 h4, n => .man (by rw [wo_ne (fun e => by subst e; rw [hp] at h; cases h)]; exact h) (Is.off hp h1 (off_rows _)) (Is.off hp h2 (off_strs _)) (Is.off hp h3 (off_strs _)) (Is.off hp h4 (off_strs _))
theorem IsAll.off (hp : H p = some (.lst [.int a, .int b, .int t, .int c])) : ∀ {vs : List V} {ds : List D}, IsAll K H vs ds → offIs ds = true → IsAll K (wo H p) vs ds
  | _, _, .nil, _ => .nil
  | _, _, .cons h t, n => by
    rw [offIs, Bool.and_eq_true] at n
    exact .cons (Is.off hp h n.1) (IsAll.off hp t n.2)
end
theorem Is.offP {n : Nat} (hp : Purse p n H) {v : V} {d : D} (h : Is K H v d) (o : offI d = true) : Is K (wo H p) v d := by
  obtain ⟨a, b, t, c, h1, _⟩ := hp.at_
  exact h.off h1 o
end
/-- all but the purse stays -/
def ExtP (p : Addr) (H H' : Hp) : Prop := Ext (wo H p) H'
theorem ExtP.refl {p : Addr} {H : Hp} : ExtP p H H := Ext.ofWo
theorem Ext.p {p : Addr} {H H' : Hp} (e : Ext H H') : ExtP p H H' := Ext.ofWo.trans e
theorem ExtP.trans {p : Addr} {H H1 H2 : Hp} (e : ExtP p H H1) (f : ExtP p H1 H2) : ExtP p H H2 := fun a o h => f a o (by
  have hne : a ≠ p := fun z => by subst z; rw [wo_same] at h; cases h
  rw [wo_ne hne]; exact e a o h)
theorem Is.mp {K : PySem.W.Frag} {p : Addr} {H H' : Hp} {n : Nat} {v : V} {d : D} (h : Is K H v d) (e : ExtP p H H') (hp : Purse p n H) (o : offI d = true) : Is K H' v d := (h.offP hp o).mono e
end Wb
/-! Draws. -/
namespace Wb
open PySem PySem.Spec L2
/-- B stands, the purse stands at p beside it -/
structure Stp (p : Addr) (n : Nat) (B H : Hp) : Prop where
  np : B p = none
  ext : Ext B H
  pu : Purse p n H
section
variable {p : Addr} {n m : Nat} {B B0 H H' : Hp} {K : PySem.W.Frag} {v : V} {d : D}
theorem Stp.to (s : Stp p n B H) (e : Ext H H') : Stp p n B H' := ⟨s.np, s.ext.trans e, s.pu.ext e⟩
theorem Stp.mono (s : Stp p n B H) (h : n ≤ m) : Stp p m B H := ⟨s.np, s.ext, s.pu.mono h⟩
theorem Stp.base (s : Stp p n B H) : Stp p n (wo H p) H := ⟨wo_same, Ext.ofWo, s.pu⟩
theorem Stp.up (s : Stp p n B H) : Ext B (wo H p) := s.ext.wo s.np
theorem Stp.is (s : Stp p n B H) (h : Is K H v d) (o : offI d = true) : Is K (wo H p) v d := h.offP s.pu o
theorem Stp.low (s : Stp p n B H) (e : Ext B0 B) : Stp p n B0 H := ⟨e.back s.np, e.trans s.ext, s.pu⟩
theorem Stp.isAll {vs : List V} {ds : List D} (s : Stp p n B H) (h : IsAll K H vs ds) (o : offIs ds = true) : IsAll K (wo H p) vs ds := by
  obtain ⟨a, b, t, c, h1, _⟩ := s.pu.at_
  exact IsAll.off h1 h o
theorem isAll0 {vs : List V} (h : IsAll K H vs []) : vs = [] := by cases h; rfl
end
/-- the promise of a def that draws -/
def spP (K : PySem.W.Frag) (c : Nat) (pre : List D → Prop) (post : List D → D → Prop) : Sp := fun vs H Q _ => ∃ p n B vs' ds, vs = .ref p :: vs' ∧ Stp p n B H ∧ n + c ≤ 1000000000 ∧ IsAll K B vs' ds ∧ pre ds ∧ ∀ v H' d, post ds d → Stp p (n + c) B H' → Is K H' v d → Q v H'
section
variable {P : Program} {w : World} {K : PySem.W.Frag} {mg : Str → Option Value} {base : Heap}
theorem kp_p {g : Str} {st : Stmt} {N ps : List Str} {k c : Nat} {pre : List D → Prop} {post : List D → D → Prop} (T : Top w K mg) (i : Nat) (hi : fnAll[i]? = some (fnOne (g, none) g g st [])) (S : FnScope N ps (defScope st))
    (hb : ∀ (kV doc pm : Value) (an : Option Addr) (cdv ct : Value) (us : List Value), us.length = ps.length → bindArgs (PySem.W.fnOf g g (defArgs st) (defBody st) (defScope st) .none kV doc pm an cdv ct) ⟨us, []⟩ = pure (ps.zip us))
    (len : ∀ ds, pre ds → ds.length + 1 = ps.length)
    (body : ∀ (cdv : Value) (A : Around) (outer : List Env) (s : Shared) (H : Hp) (p : Addr) (n : Nat) (B : Hp) (vs : List V) (ds : List D) (Q : VK) (E : XK), Room k (A.deeper (PyProof.Rows.envOfC g (defScope st) s.heap.objs.size (He.ga K g) cdv)) → Stp p n B H → n + c ≤ 1000000000 → IsAll K B vs ds → pre ds → (∀ v H' d, post ds d → Stp p (n + c) B H' → Is K H' v d → Q v H') →
      WSs (Cd P w K mg base N g st cdv A outer s H E) (defBody st) { nx := fun _ H' => Q .non H', rt := Q } (start N (.ref p :: vs)) H) : Kp P w K mg base g ps [] (k + 1) (spP K c pre post) :=
  kp_of T i hi S hb (fun vs H Q E ⟨p, n, B, vs', ds, h1, _, _, h2, h3, _⟩ => by rw [h1, List.length_cons, h2.length, len ds h3]) fun cdv A outer s H vs Q E hr ⟨p, n, B, vs', ds, h1, h2, h3, h4, h5, h6⟩ => by
    subst h1
    exact body cdv A outer s H p n B vs' ds Q E hr h2 h3 h4 h5 h6
end
section
variable {X : Cx} {e a b o i value : Expr} {es : List Expr} {σ : L2.St} {H B : Hp} {pos pp pos' : Pos} {Dn : Ends} {p : Addr} {n c k : Nat} {ds : List D} {Q : VK}
theorem wa_nil {Q : List V → Hp → Prop} (h : Q [] H) : WA X [] σ H Q := WA.of pa_nil h
theorem wa_cons {Q : List V → Hp → Prop} (h : WE X e σ H fun v H1 => WA X es σ H1 fun vs H2 => Q (v :: vs) H2) (hs : noStar e = true := by rfl) : WA X (e :: es) σ H Q := WA.of (pa_cons WE.pe WA.pa (star_cons hs)) h
/-- a call of a def that draws, its other arguments data of B -/
theorem we_draw {g : Str} {ps : List Str} {pre : List D → Prop} {post : List D → D → Prop} (F : Kp X.prog X.w X.K X.mg X.base g ps [] k (spP X.K c pre post)) (hr : Room k X.A) (s : Stp p n B H) (hn : n + c ≤ 1000000000) (h0 : Ev X σ B e (.obj p)) (ha : EvA X σ B es ds) (ho : offIs ds = true) (hp : pre ds)
    (q : ∀ v H2 d, post ds d → Stp p (n + c) B H2 → Is X.K H2 v d → Q v H2) (hg : Gl X g := by rfl) (hs : (e :: es).all noStar = true := by rfl) (hdb : (g == ("__debug__" : Str)) = false := by decide) : WE X (.Call (.Name g pp) (e :: es) [] pos) σ H Q :=
  we_call F hr (wa_cons (h0 H s.ext _ fun v H1 e1 hv => ha H1 (s.ext.trans e1) _ fun vs H2 e2 hvs => by
    cases hv
    have s2 := (s.to e1).to e2
    refine ⟨p, n, wo H2 p, vs, ds, by simp, s2.base, hn, s2.isAll hvs ho, hp, fun v H' d hq st hv => q v H' d hq (st.low s2.up) hv⟩) (Bool.and_eq_true_iff.mp hs).1) hg hs hdb
/-- .. its arguments whatever -/
theorem we_drawA {g : Str} {ps : List Str} {pre : List D → Prop} {post : List D → D → Prop} (F : Kp X.prog X.w X.K X.mg X.base g ps [] k (spP X.K c pre post)) (hr : Room k X.A)
    (h : WA X (e :: es) σ H fun vs H1 => ∃ p n B vs' ds, vs = .ref p :: vs' ∧ Stp p n B H1 ∧ n + c ≤ 1000000000 ∧ IsAll X.K H1 vs' ds ∧ offIs ds = true ∧ pre ds ∧ ∀ v H2 d, post ds d → Stp p (n + c) B H2 → Is X.K H2 v d → Q v H2)
    (hg : Gl X g := by rfl) (hs : (e :: es).all noStar = true := by rfl) (hdb : (g == ("__debug__" : Str)) = false := by decide) : WE X (.Call (.Name g pp) (e :: es) [] pos) σ H Q :=
  we_call F hr ⟨fun pos pins s I => wpAny_mono (h.run pos pins s I) (fun _ _ ⟨vs, H1, I1, r1, p, n, B, vs', ds, e1, s2, hn, hvs, ho, hp, q⟩ => ⟨vs, H1, I1, r1, by
    subst e1
    exact ⟨p, n, wo H1 p, vs', ds, by simp, s2.base, hn, s2.isAll hvs ho, hp, fun v H' d hq st hv => q v H' d hq (st.low s2.up) hv⟩⟩) fun _ _ z => z⟩ hg hs hdb
/-- o[i] = e, a list -/
theorem ws_store (h : WE X value σ H fun v H1 => WE X o σ H1 fun x H2 => WE X i σ H2 fun y H3 => ∃ p xs k j, x = .ref p ∧ y = .int k ∧ H3 p = some (.lst xs) ∧ ixN xs.length k = some j ∧ Dn.nx σ (upd H3 p (.lst (xs.set j v))))
    (ha : ∀ v, assign (.Subscript o i pos') X.env v = (do
      let ov ← holding [v] (eval o X.env)
      let iv ← holding [v, ov] (eval i X.env)
      standAt pos'
      holding [v, ov, iv] (setItem ov iv v)
      release [v, ov, iv] []) := by intro _; rfl) (hs : swapsWithSole [.Subscript o i pos'] value pos.line X.env = pure false := by rfl) (hw : swappedStores [.Subscript o i pos'] value X.env = pure none := by rfl) : WS X (.Assign [.Subscript o i pos'] value pos) Dn σ H :=
  WS.of (ps_asg WE.pe (pg_sub WE.pe WE.pe set_list ha) hs hw) h
theorem ev_mod {i j : Int} (hj : 0 < j) (h : Ev X σ H a (.int i)) (h2 : Ev X σ H b (.int j)) : Ev X σ H (.BinOp a .Mod b pos) (.int (i % j)) := ev_bin op_mod (r2_Ii hj) h h2
theorem ev_fdv {i j : Int} (hj : 0 < j ∧ j < 1073741824) (h : Ev X σ H a (.int i)) (h2 : Ev X σ H b (.int j)) : Ev X σ H (.BinOp a .FloorDiv b pos) (.int (i / j)) := ev_bin op_fdiv (r2_Ii (C := CDiv) hj) h h2
theorem ev_mul' {i j : Int} (hc : (-(2 ^ 64) < i ∧ i < 2 ^ 64) ∨ (-(2 ^ 64) < j ∧ j < 2 ^ 64)) (h : Ev X σ H a (.int i)) (h2 : Ev X σ H b (.int j)) : Ev X σ H (.BinOp a .Mult b pos) (.int (i * j)) := ev_bin op_mul (r2_Ii (C := CMul) hc) h h2
theorem ev_bits {i : Int} {apos : Pos} (h : Ev X σ H o (.int i)) (hbase : attributeBase o "bit_length" X.env (eval o X.env) = eval o X.env := by rfl) (hline : (apos.endLine == pos.line) = true := by rfl) : Ev X σ H (.Call (.Attribute o "bit_length" apos) [] [] pos) (.int (Builtin.Int.intBits i : Nat)) :=
  fun H1 e1 Q q => WE.of (pe_bits WE.pe hbase hline) (h H1 e1 _ fun v H2 e2 hv => by cases hv; exact ⟨i, rfl, q _ H2 e2 (.int _)⟩)
end
/-! _law_mixed -/
def mixedI (s t a : Int) : Int := ((((s * 69069 + 104729 * t * t) + 7919 * a + t) % 2147483647 * ((s * 69069 + 104729 * t * t + 7919 * a + t) % 2147483647) + 40503) % 2147483629 * 48271) % 2147483587
theorem mixedI_le (s t a : Int) : 0 ≤ mixedI s t a ∧ mixedI s t a < 2147483587 := ⟨Int.emod_nonneg _ (by decide), Int.emod_lt_of_pos _ (by decide)⟩
def Rmixed : List D → D → Prop := fun ds d => ∃ s t a : Int, 0 ≤ s ∧ s < 2147483629 ∧ 0 ≤ t ∧ t ≤ 1000000001 ∧ 0 ≤ a ∧ a ≤ 10 ∧ ds = [.int s, .int t, .int a] ∧ d = .int (mixedI s t a)
section
variable {P : Program} {w : World} {K : PySem.W.Frag} {mg : Str → Option Value} {base : Heap}
abbrev N__law_mixed : List Str := ["_law_seed", "_law_turn", "_law_at", "_law_mixed_here"]
theorem kp__law_mixed (T : Top w K mg) : Kp P w K mg base "_law_mixed" ["_law_seed", "_law_turn", "_law_at"] [] 1 (spD K Rmixed) := by
  have hN : N__law_mixed.Nodup := by decide +kernel
  refine kp_d (N := N__law_mixed) T 58 rfl ⟨rfl, rfl, rfl, hN, rfl, by decide +kernel, by decide +kernel⟩ (fun _ _ _ _ _ _ us hl => match us, hl with | [_, _, _], _ => rfl) (fun ds d ⟨_, _, _, _, _, _, _, _, _, h, _⟩ => by rw [h]; rfl) ?_
  rintro cdv A outer s H vs ds d Q E hr hv ⟨sd, t, a, s0, s1, t0, t1, a0, a1, rfl, rfl⟩ k
  obtain ⟨v0, v1, v2, rfl, h0, h1, h2⟩ := isAll3 hv
  refine wss_cons (ws_set hN (i := 3) (ev_add (ev_mul' (.inl (by omega)) (ev_v 0 h0) ev_int) (ev_mul' (.inr (by omega)) (ev_mul' (.inr (by omega)) ev_int (ev_v 1 h1)) (ev_v 1 h1))) fun v3 H1 e1 h3 => ?_)
  replace h1 := h1.mono e1
  replace h2 := h2.mono e1
  refine wss_cons (ws_set hN (i := 3) (ev_mod (by decide) (ev_intI T.f_int (ev_add (ev_add (ev_v 3 h3) (ev_mul' (.inr (by omega)) ev_int (ev_v 2 h2))) (ev_v 1 h1))) ev_int) fun v4 H2 e2 h4 => ?_)
  have m0 := Int.emod_nonneg (sd * 69069 + 104729 * t * t + 7919 * a + t) (b := 2147483647) (by decide)
  have m1 := Int.emod_lt_of_pos (sd * 69069 + 104729 * t * t + 7919 * a + t) (b := 2147483647) (by decide)
  refine wss_cons (ws_set hN (i := 3) (ev_mod (by decide) (ev_intI T.f_int (ev_add (ev_mul' (.inl (by omega)) (ev_v 3 h4) (ev_v 3 h4)) ev_int)) ev_int) fun v5 H3 e3 h5 => ?_)
  exact wss_one (ws_ret (ev_mod (by decide) (ev_intI T.f_int (ev_mul' (.inr (by decide)) (ev_v 3 h5) ev_int)) ev_int) fun v H4 e4 hv => k v H4 (e1.trans (e2.trans (e3.trans e4))) hv)
end
end Wb
/-! A draw, an item drawn. -/
namespace Wb
open PySem PySem.Spec L2
section
variable {P : Program} {w : World} {K : PySem.W.Frag} {mg : Str → Option Value} {base : Heap}
def Pdraw : List D → Prop := fun ds => ∃ m : Int, 1 ≤ m ∧ m ≤ 100000 ∧ ds = [.int m]
def Qdraw : List D → D → Prop := fun ds d => ∃ (m : Int) (k : Nat), ds = [.int m] ∧ d = .int (k : Int) ∧ (k : Int) < m
abbrev N_law_draw : List Str := ["_law_purse_here", "_law_many", "_law_drawn", "_law_found", "_law_piece"]
theorem kq_law_draw (T : Top w K mg) : Kp P w K mg base "_law_draw" ["_law_purse_here", "_law_many"] [] 2 (spP K 1 Pdraw Qdraw) := by
  have hN : N_law_draw.Nodup := by decide +kernel
  refine kp_p (N := N_law_draw) T 59 rfl ⟨rfl, rfl, rfl, hN, rfl, by decide +kernel, by decide +kernel⟩ (fun _ _ _ _ _ _ us hl => match us, hl with | [_, _], _ => rfl) (fun ds ⟨_, _, _, h⟩ => by rw [h]; rfl) ?_
  rintro cdv A outer s H p n B vs ds Q E hr st hn hv ⟨m, m1, m2, rfl⟩ k
  obtain ⟨v1, rfl, h1⟩ := isAll1 hv
  obtain ⟨a, b, t, c, hp, a0, b0, b1, t0, t1, c0, c1⟩ := st.pu.at_
  have pIs : ∀ {H' : Hp} {a b t c : Int}, H' p = some (.lst [.int a, .int b, .int t, .int c]) → Is K H' (.ref p) (.lst [.int a, .int b, .int t, .int c]) := fun hp => .lst hp (.cons (.int _) (.cons (.int _) (.cons (.int _) (.cons (.int _) .nil))))
  have ip := pIs hp
  replace h1 := h1.mono st.ext
  refine wss_cons (ws_if (c := decide (0 < a)) (EvT.is (evt_gt (ev_ixLc 0 rfl (ev_v 0 ip)) ev_int) rfl) (fun q H1 e1 => ?_) (fun q H1 e1 => ?_))
  · replace h1 := h1.mono e1
    refine wss_cons (ws_set hN (i := 2) (ev_mod (by omega) (ev_intI T.f_int (ev_ixLc 0 rfl (ev_v 0 (ip.mono e1)))) (ev_v 1 h1)) fun v2 H2 e2 h2 => ?_)
    replace h1 := h1.mono e2
    have e12 := e1.trans e2
    refine wss_cons (ws_store (ev_fdv ⟨by omega, by omega⟩ (ev_ixLc 0 rfl (ev_v 0 (ip.mono e12))) (ev_v 1 h1) _ (Ext.refl _) _ fun v H3 e3 hv => we_v 0 (ev_int _ (Ext.refl _) _ fun y H4 e4 hy => ?_)))
    cases hy
    cases hv
    have e4' := e12.trans (e3.trans e4)
    have hp4 : H4 p = some (.lst [.int a, .int b, .int t, .int c]) := e4' _ _ hp
    refine ⟨p, _, 0, 0, rfl, rfl, hp4, rfl, ?_⟩
    cases h2
    have m0 := Int.emod_nonneg a (b := m) (by omega)
    have m3 := Int.emod_lt_of_pos a (b := m) (by omega)
    refine wss_one (ws_ret (ev_v 2 (.int (a % m))) fun v H5 e5 hv => k v H5 (.int (a % m)) ⟨m, (a % m).toNat, rfl, by rw [Int.toNat_of_nonneg m0], by rw [Int.toNat_of_nonneg m0]; exact m3⟩ ?_ hv)
    have d0 : 0 ≤ a / m := Int.ediv_nonneg a0 (by omega)
    exact ⟨st.np, ((st.ext.trans e4').mut st.np).trans e5, ⟨a / m, b, t, c, e5 _ _ upd_same, d0, b0, b1, t0, by omega, c0, c1⟩⟩
  · have a00 : a = 0 := by have := of_decide_eq_false q; omega
    refine wss_nil (wss_cons (ws_set hN (i := 3) ev_int fun v3 H2 e2 h3 => ?_))
    have e12 := e1.trans e2
    replace h1 := h1.mono e12
    have hp2 := e12 _ _ hp
    cases h3
    have hbits : Builtin.Int.intBits m ≤ 17 := PyProof.Rows.intBits_le (by omega)
    refine wss_cons (ws_forS PassesOwn.never rfl (B := B) (evs_range (n := 1) T.f_range (Ev.is (ev_add ev_int (ev_fdv ⟨by decide, by decide⟩ (ev_bits (ev_v 1 h1)) ev_int)) (by congr 1; omega)) (by decide)) (pgn 4 hN)
      (fun i σ' H' => ∃ (f : Int) (x4 : Option V), σ' = [some (.ref p), some v1, none, some (.int f), x4] ∧ 0 ≤ f ∧ (i = 0 → f = 0) ∧ Ext B H' ∧ Is K H' v1 (.int m) ∧ H' p = some (.lst [.int a, .int b, .int (t + (i : Nat)), .int c])) (fun i σ' H' ⟨_, _, _, _, _, h, _⟩ => h)
      (fun H3 e3 => ⟨0, none, rfl, by decide, fun _ => rfl, st.ext.trans (e12.trans e3), h1.mono e3, by rw [e3 _ _ hp2]; simp⟩) ?_ ?_)
    · rintro i d σ' H' v hd ⟨f, x4, rfl, f0, ff, eB, h1', hp'⟩ hv
      have hi : i = 0 := by have := (List.getElem?_eq_some_iff.mp hd).1; simp at this; omega
      subst hi
      obtain rfl := ff rfl
      have ip' := pIs hp'
      refine wss_cons (ws_store (ev_add (ev_ixLc 2 rfl (ev_v 0 ip')) ev_int _ (Ext.refl _) _ fun u H3 e3 hu => we_v 0 (ev_int _ (Ext.refl _) _ fun y H4 e4 hy => ?_)))
      cases hy
      cases hu
      refine ⟨p, _, 2, 2, rfl, rfl, e4 _ _ (e3 _ _ hp'), rfl, ?_⟩
      have hp5 : upd H4 p (.lst [.int a, .int b, .int (t + ((0 : Nat) : Int) + 1), .int c]) p = _ := upd_same
      have eB5 : Ext B (upd H4 p (.lst [.int a, .int b, .int (t + ((0 : Nat) : Int) + 1), .int c])) := (eB.trans (e3.trans e4)).mut st.np
      show WSs _ _ _ _ (upd H4 p (.lst [.int a, .int b, .int (t + ((0 : Nat) : Int) + 1), .int c]))
      have h1'' : Is K (upd H4 p (.lst [.int a, .int b, .int (t + ((0 : Nat) : Int) + 1), .int c])) v1 (.int m) := by cases h1'; exact .int _
      generalize upd H4 p (.lst [.int a, .int b, .int (t + ((0 : Nat) : Int) + 1), .int c]) = H5 at hp5 eB5 h1'' ⊢
      have ip5 := pIs hp5
      have t5 : t + ((0 : Nat) : Int) + 1 = t + 1 := by omega
      rw [t5] at ip5 hp5
      have mx := mixedI_le b (t + 1) c
      refine wss_one (ws_set hN (i := 3) (ev_add (ev_mul' (.inr (by decide)) (ev_v 3 (.int 0)) ev_int) (ev_call (kp__law_mixed T) (hr.mono (by decide)) (eva_cons (ev_ixLc 1 rfl (ev_v 0 ip5)) (eva_cons (ev_ixLc 2 rfl (ev_v 0 ip5)) (eva_cons (ev_ixLc 3 rfl (ev_v 0 ip5)) eva_nil)))
        ⟨b, t + 1, c, b0, b1, by omega, by omega, c0, c1, rfl, rfl⟩)) fun v6 H6 e6 h6 => ?_)
      cases h6
      exact ⟨_, _, rfl, by omega, fun z => absurd z (by decide), eB5.trans e6, h1''.mono e6, by rw [e6 _ _ hp5]; simp⟩
    · rintro σ' H' ⟨f, x4, rfl, f0, _, eB, h1', hp'⟩
      have m0 := Int.emod_nonneg f (b := m) (by omega)
      have m3 := Int.emod_lt_of_pos f (b := m) (by omega)
      refine wss_one (ws_ret (ev_mod (by omega) (ev_intI T.f_int (ev_v 3 (.int f))) (ev_v 1 h1')) fun v H5 e5 hv => k v H5 (.int (f % m)) ⟨m, (f % m).toNat, rfl, by rw [Int.toNat_of_nonneg m0], by rw [Int.toNat_of_nonneg m0]; exact m3⟩ ?_ hv)
      simp only [List.length_map, List.length_range] at hp'
      exact ⟨st.np, eB.trans e5, ⟨a, b, t + 1, c, e5 _ _ hp', a0, b0, b1, by omega, by omega, c0, c1⟩⟩
end
end Wb
/-! Rules for what draws: expressions, comprehensions, loops. -/
namespace Wb
open PySem PySem.Spec L2
section
variable {X : Cx} {e a b o i t iter tg elt : Expr} {es : List Expr} {σ : L2.St} {H B : Hp} {pos pp pos' apos : Pos} {Dn : Ends} {p : Addr} {n c : Nat} {ds : List D} {Q : VK}
theorem we_op {op : Operator} {r : R2} (ho : OpR X (binaryOp op) r) (h : WE X a σ H fun x H1 => WE X b σ H1 fun y H2 => r x y H2 Q) : WE X (.BinOp a op b pos) σ H Q := WE.of (pe_op ho WE.pe WE.pe) h
theorem we_ix {r : R2} (ho : IxR X r) (h : WE X a σ H fun x H1 => WE X b σ H1 fun y H2 => r x y H2 Q) (hs : PlainIx b := by exact fun _ _ => rfl) : WE X (.Subscript a b pos) σ H Q := WE.of (pe_ix ho WE.pe WE.pe hs) h
theorem we_if (h : WT X t σ H fun c H1 => if c = true then WE X a σ H1 Q else WE X b σ H1 Q) : WE X (.IfExp t a b pos) σ H Q := WE.of (pe_ifExp WT.pt WE.pe WE.pe) h
theorem wt_cmp {op : CmpOp} {r : R2} {Q : Bool → Hp → Prop} (ho : OpR X (compareOp op) r) (h : WE X a σ H fun x H1 => WE X b σ H1 fun y H2 => r x y H2 fun v H3 => ∃ c, v = .bl c ∧ Q c H3) (hm : behindInMarks op b = false := by first | exact nobehind _ (by decide) (by decide) | rfl) : WT X (.Compare a [op] [b] pos) σ H Q := WT.of (pt_cmpR ho WE.pe WE.pe hm) h
theorem we_cmp {op : CmpOp} {r : R2} (ho : OpR X (compareOp op) r) (h : WE X a σ H fun x H1 => WE X b σ H1 fun y H2 => r x y H2 Q) (hm : behindInMarks op b = false := by first | exact nobehind _ (by decide) (by decide) | rfl) : WE X (.Compare a [op] [b] pos) σ H Q := WE.of (pe_cmpR ho WE.pe WE.pe hm) h
theorem wt_eqI {Q : Bool → Hp → Prop} (h : WE X a σ H fun x H1 => ∃ i, x = .int i ∧ WE X b σ H1 fun y H2 => ∃ j, y = .int j ∧ Q (decide (i = j)) H2) : WT X (.Compare a [.Eq] [b] pos) σ H Q :=
  wt_cmp op_eq (WE.mono h fun v H1 ⟨i, e1, h1⟩ => WE.mono h1 fun u H2 ⟨j, e2, h2⟩ => by subst e1; subst e2; exact ⟨rfl, _, rfl, by rw [dec_int]; exact h2⟩)
theorem we_eqI (h : WE X a σ H fun x H1 => ∃ i, x = .int i ∧ WE X b σ H1 fun y H2 => ∃ j, y = .int j ∧ Q (.bl (decide (i = j))) H2) : WE X (.Compare a [.Eq] [b] pos) σ H Q :=
  we_cmp op_eq (WE.mono h fun v H1 ⟨i, e1, h1⟩ => WE.mono h1 fun u H2 ⟨j, e2, h2⟩ => by subst e1; subst e2; exact ⟨rfl, by rw [dec_int]; exact h2⟩)
theorem we_addI (h : WE X a σ H fun x H1 => ∃ i, x = .int i ∧ WE X b σ H1 fun y H2 => ∃ j, y = .int j ∧ Q (.int (i + j)) H2) : WE X (.BinOp a .Add b pos) σ H Q :=
  we_op op_add (WE.mono h fun v H1 ⟨i, e1, h1⟩ => WE.mono h1 fun u H2 ⟨j, e2, h2⟩ => by subst e1; subst e2; exact ⟨i, j, rfl, rfl, h2⟩)
theorem we_int {j : Int} {k : Nat} (h : Q (.int j) H) : WE X (.Constant (.int j) k pos) σ H Q := WE.of pe_int h
theorem we_str {x : Str} {k : Nat} (h : Q (.str x) H) : WE X (.Constant (.str x) k pos) σ H Q := WE.of pe_str h
theorem WT.mono {Q Q' : Bool → Hp → Prop} (h : WT X t σ H Q) (k : ∀ c H, Q c H → Q' c H) : WT X t σ H Q' := ⟨fun pins s I => wpAny_mono (h.run pins s I) (fun _ _ ⟨H', I', q⟩ => ⟨H', I', k _ H' q⟩) fun _ _ z => z⟩
theorem Ev.we {d : D} (h : Ev X σ B e d) (x : Ext B H) (k : ∀ v H2, Ext H H2 → Is X.K H2 v d → Q v H2) : WE X e σ H Q := h H x _ k
theorem ws_setW {i : Nat} {x : Str} {pos' : Pos} (hN : X.N.Nodup) (h : WE X e σ H fun v H1 => Dn.nx (σ.set i (some v)) H1) (hi : X.N[i]? = some x := by rfl) (hx : Loc X.env.scope x := by first | exact .inl rfl | exact .inr rfl)
    (hs : swapsWith e (some (.Name x pos')) pos.line X.env = pure false := by rfl) (hf : X.fn x = true ∨ X.env.scope.names.lookup x = some .local := by first | exact .inl rfl | exact .inr rfl) : WS X (.Assign [.Name x pos'] e pos) Dn σ H := ws_set' hN h hi hx hs hf
theorem ws_retW (h : WE X e σ H Dn.rt) : WS X (.Return (some e) pos) Dn σ H := WS.of (ps_ret WE.pe) h
theorem ws_ifW {s1 s2 : List Stmt} (h : WT X e σ H fun c H1 => if c = true then WSs X s1 Dn σ H1 else WSs X s2 Dn σ H1) : WS X (.If e s1 s2 pos) Dn σ H := WS.of (ps_if WT.pt WSs.pss WSs.pss) h
theorem ws_exprW (h : WE X e σ H fun _ H1 => Dn.nx σ H1) (hs : swapsWith e none pos.line X.env = pure false := by rfl) : WS X (.Expr e pos) Dn σ H := WS.of (ps_expr WE.pe hs) h
theorem we_tup {es : List Expr} {k : Nat} (h : WA X es σ H fun vs H1 => vs.length ≤ 100000 ∧ ∀ l, H1 l = none → Q (.ref l) (upd H1 l (.tup vs))) : WE X (.Tuple es k pos) σ H Q :=
  WE.of (pe_tup WA.pa) ⟨fun pos pins s I => wpAny_mono (h.run pos pins s I) (fun _ _ ⟨vs, H1, I1, r1, q1, q2⟩ => ⟨vs, H1, I1, r1, small q1, q2⟩) fun _ _ z => z⟩
theorem we_lst {es : List Expr} (h : WA X es σ H fun vs H1 => vs.length ≤ 100000 ∧ ∀ l, H1 l = none → Q (.ref l) (upd H1 l (.lst vs))) : WE X (.List es pos) σ H Q :=
  WE.of (pe_lst WA.pa) ⟨fun pos pins s I => wpAny_mono (h.run pos pins s I) (fun _ _ ⟨vs, H1, I1, r1, q1, q2⟩ => ⟨vs, H1, I1, r1, small q1, q2⟩) fun _ _ z => z⟩
theorem WS.mono {st : Stmt} {M : L2.St → Hp → Prop} (h : WS X st { Dn with nx := M } σ H) {N : L2.St → Hp → Prop} (k : ∀ σ H, M σ H → N σ H) : WS X st { Dn with nx := N } σ H := ⟨fun pins s I => wpAny_mono (h.run pins s I) (fun f s' q => by
  cases f with
  | next => obtain ⟨σ', H', I', q⟩ := q; exact ⟨σ', H', I', k _ _ q⟩
  | brk => exact q
  | cont => exact q
  | ret u => exact q) fun _ _ z => z⟩
/-- a statement, what stands behind it told -/
theorem wss_mid {st : Stmt} {r : List Stmt} (M : L2.St → Hp → Prop) (h : WS X st { Dn with nx := M } σ H) (k : ∀ σ H, M σ H → WSs X r Dn σ H) : WSs X (st :: r) Dn σ H := wss_cons (WS.mono h k)
/-- what draws changes no other list -/
theorem Stp.upd {l : Addr} {o : HO} (s : Stp p n B H) (hB : B l = none) (hl : l ≠ p) : Stp p n B (L2.upd H l o) :=
  ⟨s.np, s.ext.mut hB, by obtain ⟨a, b, t, c, h1, h2⟩ := s.pu.at_; exact ⟨a, b, t, c, by rw [upd_ne (fun z => hl z.symm)]; exact h1, h2⟩⟩
theorem Stp.ne {l : Addr} (s : Stp p n B H) (h : H l = none) : l ≠ p := fun e => by
  obtain ⟨a, b, t, c, h1, _⟩ := s.pu.at_
  subst e; rw [h] at h1; cases h1
def TtMono (tt : TT) : Prop := ∀ σ H (P Q : Bool → Hp → Prop), (∀ b H, P b H → Q b H) → tt σ H P → tt σ H Q
theorem tm_yes : TtMono tYes := fun _ _ _ _ h q => h _ _ q
theorem tm_bk {scope : Scope} {test : Expr} : TtMono (bkT X scope test) := fun _ _ _ _ h q s H' C cl fp => WT.mono (q s H' C cl fp) h
theorem iteT' {a b : Prop} (h : if true = true then a else b) : a := by simpa using h
theorem iteF' {a b : Prop} (h : if false = true then a else b) : b := by simpa using h
/-- a comprehension whose turns draw -/
theorem lc_draw {scope : Scope} {vs : List Nat} {g : TG} {tt : TT} {xs : List D} (hi : ∀ R : It → Hp → Prop, (∀ J H2, Ext H H2 → Yl X.K J B xs → R J H2) → WI X tg iter σ H R) (hz : xs.length ≤ 100000) (hm : GMono g) (ht : TtMono tt) (s : Stp p n B H) (Acc : Nat → List V → Hp → Prop) (A0 : ∀ H', Acc 0 [] H') (AM : ∀ i acc H1 H2, Ext H1 H2 → Acc i acc H1 → Acc i acc H2)
    (hs : ∀ i d v H2 B' Dl acc, xs[i]? = some d → Ext B B' → Stp p (n + i * c) B' H2 → Is X.K H2 v d → B Dl = none → Dl ≠ p → B' Dl = some (.lst acc) → acc.length ≤ i → Acc i acc (wo H2 Dl) → g v (wipe σ vs) H2 fun σ2 H3 => wipe σ2 vs = wipe σ vs ∧ tt σ2 H3 fun b H4 =>
      if b = true then bkE X scope elt σ2 H4 fun z H5 => Stp p (n + (i + 1) * c) B' H5 ∧ Acc (i + 1) (acc ++ [z]) (wo H5 Dl) else Stp p (n + (i + 1) * c) B' H4 ∧ Acc (i + 1) acc (wo H4 Dl))
    (hd : ∀ Dl acc H2, Stp p (n + xs.length * c) B H2 → H Dl = none → Dl ≠ p → H2 Dl = some (.lst acc) → acc.length ≤ xs.length → Acc xs.length acc (wo H2 Dl) → Q (.ref Dl) H2) : tLc (WI X tg iter) g tt (bkE X scope elt) vs σ H Q := by
  refine hi _ fun J Hb e2 y Dl hD => ?_
  have hD0 : H Dl = none := e2.back hD
  have s2 := s.to e2
  have hDp : Dl ≠ p := s2.ne hD
  have hDB : B Dl = none := s2.ext.back hD
  refine ⟨fun i m H' => m = xs.length - i ∧ i ≤ xs.length ∧ Stp p (n + i * c) B H' ∧ ∃ acc, H' Dl = some (.lst acc) ∧ acc.length ≤ i ∧ Acc i acc (wo H' Dl), ⟨xs.length, by simp, Nat.zero_le _, by rw [Nat.zero_mul]; exact s2.upd hDB hDp, [], upd_same, Nat.le_refl _, A0 _⟩, ?_⟩
  rintro i m H3 ⟨rfl, hle, s3, acc, a1, a2, a3⟩
  by_cases hlt : i < xs.length
  · refine .inr ⟨y.go i H3 s3.ext hlt, fun H' => i + 1 ≤ xs.length ∧ Stp p (n + (i + 1) * c) B H' ∧ ∃ acc, H' Dl = some (.lst acc) ∧ acc.length ≤ i + 1 ∧ Acc (i + 1) acc (wo H' Dl), fun H' ⟨q1, q2⟩ => ⟨xs.length - (i + 1), by omega, rfl, q1, q2⟩, fun v H4 yy => ?_⟩
    have hd' : xs[i]? = some xs[i] := List.getElem?_eq_getElem hlt
    obtain ⟨e4, hv⟩ := y.yld i H3 v H4 xs[i] s3.ext hd' yy
    have s4 := s3.to e4
    have hD4 : wo H4 p Dl = some (.lst acc) := by rw [wo_ne hDp]; exact e4 _ _ a1
    have h := hs i xs[i] v H4 (wo H4 p) Dl acc hd' s4.up s4.base hv hDB hDp hD4 a2 (AM _ _ _ _ e4.wo2 a3)
    refine hm v _ H4 _ _ (fun σ2 H5 ⟨q1, q2⟩ => ⟨q1, ht σ2 H5 _ _ (fun b H6 q3 => ?_) q2⟩) h
    cases b with
    | true =>
      refine iteT fun s H' C cl fp => WE.mono (iteT' q3 s H' C cl fp) fun z H7 ⟨s7, a7⟩ => ?_
      have s7' := s7.low s4.up
      have hD7 : H7 Dl = some (.lst acc) := s7.ext _ _ hD4
      refine ⟨acc, hD7, Nat.lt_of_le_of_lt (Nat.le_trans a2 (Nat.le_of_lt hlt)) (Nat.lt_of_le_of_lt hz (by decide)), hlt, s7'.upd hDB hDp, acc ++ [z], upd_same, by rw [List.length_append, List.length_singleton]; omega, AM _ _ _ _ Ext.wo_upd a7⟩
    | false =>
      obtain ⟨s7, a7⟩ := iteF' q3
      exact iteF ⟨hlt, s7.low s4.up, acc, s7.ext _ _ hD4, by omega, a7⟩
  · have e : i = xs.length := by omega
    subst e
    exact .inl ⟨y.stop H3 s3.ext, hd Dl acc H3 s3 hD0 hDp a1 a2 a3⟩
theorem tYes_of {σ : L2.St} {H : Hp} {a b : Bool → Hp → Prop} (h : a true H) : tYes σ H fun c H' => if c = true then a c H' else b c H' := by
  show if true = true then a true H else b true H
  rw [if_pos rfl]; exact h
/-- .. without tests -/
theorem lc_drawY {scope : Scope} {vs : List Nat} {g : TG} {xs : List D} (hi : ∀ R : It → Hp → Prop, (∀ J H2, Ext H H2 → Yl X.K J B xs → R J H2) → WI X tg iter σ H R) (hz : xs.length ≤ 100000) (hm : GMono g) (s : Stp p n B H) (Acc : Nat → List V → Hp → Prop) (A0 : ∀ H', Acc 0 [] H') (AM : ∀ i acc H1 H2, Ext H1 H2 → Acc i acc H1 → Acc i acc H2)
    (hs : ∀ i d v H2 B' Dl acc, i < xs.length → xs[i]? = some d → Ext B B' → Stp p (n + i * c) B' H2 → Is X.K H2 v d → B Dl = none → Dl ≠ p → B' Dl = some (.lst acc) → acc.length ≤ i → Acc i acc (wo H2 Dl) → g v (wipe σ vs) H2 fun σ2 H3 => wipe σ2 vs = wipe σ vs ∧
      bkE X scope elt σ2 H3 fun z H5 => Stp p (n + (i + 1) * c) B' H5 ∧ Acc (i + 1) (acc ++ [z]) (wo H5 Dl))
    (hd : ∀ Dl acc H2, Stp p (n + xs.length * c) B H2 → H Dl = none → Dl ≠ p → H2 Dl = some (.lst acc) → acc.length ≤ xs.length → Acc xs.length acc (wo H2 Dl) → Q (.ref Dl) H2) : tLc (WI X tg iter) g tYes (bkE X scope elt) vs σ H Q :=
  lc_draw (c := c) hi hz hm tm_yes s Acc A0 AM (fun i d v H2 B' Dl acc h1 h2 h3 h4 h5 h6 h7 h8 h9 => hm _ _ _ _ _ (fun σ2 H3 ⟨q1, q2⟩ => ⟨q1, tYes_of (a := fun _ H4 => bkE X scope elt σ2 H4 fun z H5 => Stp p (n + (i + 1) * c) B' H5 ∧ Acc (i + 1) (acc ++ [z]) (wo H5 Dl)) q2⟩) (hs i d v H2 B' Dl acc (List.getElem?_eq_some_iff.mp h1).1 h1 h2 h3 h4 h5 h6 h7 h8 h9)) hd
end
end Wb
/-! Words drawn. -/
namespace Wb
open PySem PySem.Spec L2
/-- the text of one sign -/
abbrev sgn (c : Nat) : Str := ⟨#[c]⟩
theorem joinL_sgn : ∀ cs : List Nat, TL.joinL [] (cs.map fun c => [c]) = cs
  | [] => rfl
  | [c] => rfl
  | c :: d :: cs => by
    show [c] ++ ([] ++ TL.joinL [] ((d :: cs).map fun c => [c])) = _
    rw [joinL_sgn (d :: cs)]; rfl
theorem join_sgn (cs : List Nat) : Txt.join "" (cs.map sgn) = SX.S cs := by
  have e : cs.map sgn = (cs.map fun c => [c]).map SX.S := by rw [List.map_map]; rfl
  rw [e, show ("" : Str) = SX.S [] from by decide +kernel, SX.join_S, joinL_sgn]
theorem word_of {cs : List Nat} (h0 : 0 < cs.length) (h1 : cs.length < 9) (h : ∀ c ∈ cs, c ∈ letters.cps.toList) : IsWord (SX.S cs) :=
  ⟨by show 0 < cs.toArray.size; simpa using h0, by show cs.toArray.size < 9; simpa using h1, by simpa using h⟩
theorem sum_one {α : Type} : ∀ l : List α, (l.map fun _ => 1).sum = l.length
  | [] => rfl
  | a :: l => by rw [List.map_cons, List.sum_cons, sum_one l, List.length_cons]; omega
theorem letters_len : letters.cps.toList.length = 26 := by decide +kernel
section
variable {X : Cx} {e a b o i t iter tg elt : Expr} {σ : L2.St} {H B : Hp} {pos pos' apos p2 : Pos} {Dn : Ends} {Q : VK} {scope : Scope} {own : List (Str × Nat)} {g : TG}
theorem we_lcY (hN : X.N.Nodup) (ok : BlkOk X.N X.env.scope scope own) (hg : ∀ s H C cl fp, PG (Bk X scope s H C cl fp) tg g) (h : tLc (WI X tg iter) g tYes (bkE X scope elt) (own.map (·.2)) σ H Q) (hc : X.calm = true := by rfl) (hf : ∀ x, foldedSetIterable iter X.env x = pure x := by intro _; rfl) : WE X (.ListComp elt [⟨tg, iter, [], 0⟩] scope pos) σ H Q :=
  WE.of (pe_lc hc hN WI.pi ok hg (fun s H C cl fp => pts_nil) (te := bkE X scope elt) (fun s H C cl fp => ⟨fun pins s' σ H Q I h => (h _ _ _ _ _).run pins s' I⟩) hf) h
theorem ws_lcTW {test : Expr} (i : Nat) {y : Str} {py spos : Pos} (hN : X.N.Nodup) (ok : BlkOk X.N X.env.scope scope own) (hg : ∀ s H C cl fp, PG (Bk X scope s H C cl fp) tg g) (h : tLc (WI X tg iter) g (bkT X scope test) (bkE X scope elt) (own.map (·.2)) σ H fun v H1 => Dn.nx (σ.set i (some v)) H1)
    (hc : X.calm = true := by rfl) (hy : X.N[i]? = some y := by rfl) (hyl : X.env.scope.names.lookup y = some .local := by rfl) (hk : X.env.scope.kind = .function := by rfl) (hli : (py.line == pos.line) = true := by rfl)
    (hsc : (scope.names.any fun (n, k) => n == y && (k == .local || k == .cell)) = false := by decide +kernel) (hf : ∀ x, foldedSetIterable iter X.env x = pure x := by intro _; rfl) : WS X (.Assign [.Name y py] (.ListComp elt [⟨tg, iter, [test], 0⟩] scope pos) spos) Dn σ H :=
  WS.of (ps_setLc hc hN hy hyl (sw_true hk hyl hli hsc) WI.pi ok hg (tt := bkT X scope test) (fun s H C cl fp => pts_one ⟨fun pins s' σ H Q I h => (h _ _ _ _ _).run pins s' I⟩) (te := bkE X scope elt) (fun s H C cl fp => ⟨fun pins s' σ H Q I h => (h _ _ _ _ _).run pins s' I⟩) hf) h
theorem we_join (h : WE X o σ H fun x H1 => (∃ a, x = .str a) ∧ WE X e σ H1 fun y H2 => ∃ a p, ∃ ys : List Str, x = .str a ∧ y = .ref p ∧ H2 p = some (.lst (ys.map V.str)) ∧ (ys.map (·.length)).sum + ys.length * a.length ≤ 16777216 ∧ Q (.str (Txt.join a ys)) H2)
    (hs : starEach [e] X.env = [(false, eval e X.env)] := by rfl) (hbase : attributeBase o "join" X.env (eval o X.env) = eval o X.env := by rfl) (hline : (apos.endLine == pos.line) = true := by rfl) : WE X (.Call (.Attribute o "join" apos) [e] [] pos) σ H Q :=
  WE.of (pe_join WE.pe WE.pe hs hbase hline) (WE.mono h fun x H1 ⟨h1, h2⟩ => ⟨h1, WE.mono h2 fun y H2 ⟨a, p, ys, e1, e2, e3, e4, e5⟩ => ⟨a, p, ys, e1, by rw [e2], .inl (.of e3), e4, e5⟩⟩)
theorem ite_int {c : Bool} {i j : Int} {k k' : Nat} (h : ∀ z : Int, (z = i ∨ z = j) → Q (.int z) H) : if c = true then WE X (.Constant (.int i) k pos) σ H Q else WE X (.Constant (.int j) k' pos') σ H Q := by
  cases c with
  | true => exact iteT (we_int (h i (.inl rfl)))
  | false => exact iteF (we_int (h j (.inr rfl)))
/-- a letter drawn from the text of the letters -/
theorem we_letter (h : WE X b σ H fun y H2 => ∃ k : Nat, k < 26 ∧ y = .int (k : Int) ∧ ∀ c, c ∈ letters.cps.toList → Q (.str (sgn c)) H2) (hs : PlainIx b := by exact fun _ _ => rfl) {k : Nat} : WE X (.Subscript (.Constant (.str letters) k pos') b pos) σ H Q :=
  we_ix ix_str (we_str (WE.mono h fun y H2 ⟨k, hk, e, q⟩ => by
    have hk' : k < letters.cps.toList.length := by rw [letters_len]; exact hk
    exact ⟨letters, k, letters.cps.toList[k], rfl, e, small (by have := letters_len; show letters.cps.size ≤ 100000; rw [← Array.length_toList, this]; decide), atI_nat (List.getElem?_eq_getElem hk'), q _ (List.getElem_mem hk')⟩)) hs
end
section
variable {P : Program} {w : World} {K : PySem.W.Frag} {mg : Str → Option Value} {base : Heap}
def Pnone : List D → Prop := fun ds => ds = []
def Qword : List D → D → Prop := fun _ d => ∃ s, IsWord s ∧ d = .str s
abbrev N_law_word : List Str := ["_law_purse_here", "_law_size", "_law_turn"]
theorem kq_law_word (T : Top w K mg) : Kp P w K mg base "_law_word" ["_law_purse_here"] [] 3 (spP K 10 Pnone Qword) := by
  have hN : N_law_word.Nodup := by decide +kernel
  refine kp_p (N := N_law_word) T 63 rfl ⟨rfl, rfl, rfl, hN, rfl, by decide +kernel, by decide +kernel⟩ (fun _ _ _ _ _ _ us hl => match us, hl with | [_], _ => rfl) (fun ds h => by rw [h]; rfl) ?_
  rintro cdv A outer s H p n B vs ds Q E hr st hn hv rfl k
  obtain rfl := isAll0 hv
  have hr' := hr.mono (show 2 ≤ 2 by decide)
  refine wss_cons (ws_setW hN (i := 1) (we_addI (we_int ⟨1, rfl, ?_⟩)))
  refine we_drawA (kq_law_draw T) hr' (wa_cons (we_v 0 (wa_cons ?_)))
  refine we_if (wt_eqI ?_)
  refine we_draw (kq_law_draw T) hr' st (by omega) (ev_v 0 (.obj p)) (eva_cons ev_int eva_nil) rfl ⟨3, by decide, by decide, rfl⟩ fun v1 H1 d1 q1 s1 i1 => ?_
  obtain ⟨m, j, _, rfl, _⟩ := q1
  cases i1
  refine ⟨j, rfl, we_int ⟨0, rfl, ?_⟩⟩
  refine ite_int fun z hz => wa_nil ?_
  have s1 := s1.mono (show n + 1 ≤ n + 1 from Nat.le_refl _)
  refine ⟨p, n + 1, B, _, [.int z], rfl, s1, by omega, .cons (.int z) .nil, rfl, ⟨z, by omega, by omega, rfl⟩, fun v2 H2 d2 q2 s2 i2 => ?_⟩
  obtain ⟨m2, l, e2, rfl, l2⟩ := q2
  cases e2
  cases i2
  refine ⟨l, rfl, ?_⟩
  have l8 : l < 8 := by omega
  refine wss_one (ws_retW (we_join (we_str ⟨⟨_, rfl⟩, ?_⟩)))
  refine we_lcY (own := [("_law_turn", 2)]) (g := gName 2) hN (blkOk_by (by kernel_rfl)) (fun _ _ _ _ _ => pgn 2 hN) ?_
  refine lc_drawY (c := 1) (fun R q => (evi_range (n := 1 + l) (B := B) T.f_range (eva_cons (ev_v 1 (.int _)) eva_nil) (by omega)) H2 (Ext.refl _) R fun J H3 e3 y => q J H3 e3 y) (by simp; omega) gm_name s2 (fun i acc _ => ∃ cs : List Nat, acc = (cs.map sgn).map V.str ∧ cs.length = i ∧ ∀ c ∈ cs, c ∈ letters.cps.toList) (fun _ => ⟨[], rfl, rfl, by simp⟩) (fun _ _ _ _ _ h => h) ?_ ?_
  · rintro i d v H3 B' Dl acc hi hd eB s3 hv - - - - ⟨cs, rfl, hl, hc⟩
    refine ⟨rfl, fun s H' C cl fp => we_letter (we_draw (kq_law_draw T) hr' s3 ?_ (ev_v 0 (.obj p)) (eva_cons ev_int eva_nil) rfl ⟨26, by decide, by decide, rfl⟩ fun v4 H4 d4 q4 s4 i4 => ?_)⟩
    · simp at hi
      omega
    · obtain ⟨m4, j4, e4, rfl, l4⟩ := q4
      cases e4
      cases i4
      refine ⟨j4, by omega, rfl, fun c hcl => ⟨s4.mono (by omega), cs ++ [c], by simp, by simp [hl], fun x hx => ?_⟩⟩
      rcases List.mem_append.mp hx with hx | hx
      · exact hc x hx
      · rw [List.mem_singleton.mp hx]; exact hcl
  · rintro Dl acc H3 s3 - - hD - ⟨cs, rfl, hl, hc⟩
    simp only [List.length_map, List.length_range] at hl s3
    refine ⟨"", Dl, cs.map sgn, rfl, rfl, hD, ?_, ?_⟩
    · have e1 : ((cs.map sgn).map (·.length)).sum = cs.length := by
        rw [List.map_map]
        have : ((fun x => x.length) ∘ sgn : Nat → Nat) = fun _ => 1 := rfl
        rw [this, sum_one]
      rw [e1]
      have : ("" : Str).length = 0 := by decide +kernel
      rw [this]
      simp
      omega
    · rw [join_sgn]
      exact k _ H3 (.str (SX.S cs)) ⟨_, word_of (by omega) (by omega) hc, rfl⟩ (s3.mono (by omega)) (.str _)
end
end Wb
/-! Lists of words drawn. -/
namespace Wb
open PySem PySem.Spec L2
section
variable {X : Cx} {e a b o i t iter tg elt lo hi : Expr} {σ : L2.St} {H B : Hp} {pos pp pos' apos p2 : Pos} {Dn : Ends} {Q : VK} {s : Str}
theorem vals_get : ∀ {vs : List V} {us : List Value}, vs.length = us.length → (∀ (j : Nat) (v : V) (u : Value), vs[j]? = some v → us[j]? = some u → RelV v u) → Vals vs us
  | [], [], _, _ => .nil
  | v :: vs, u :: us, h, k => .cons (k 0 v u rfl rfl) (vals_get (Nat.succ.inj h) fun j v u a b => k (j + 1) v u a b)
theorem call_list_txt (hc : X.calm = true) : CallR X (.type "list") (fun xs H Q => ∃ z : Str, xs = [.str z] ∧ z.cps.size ≤ 100000 ∧ ∀ p, H p = none → Q (.ref p) (upd H p (.lst ((z.cps.toList.map sgn).map V.str)))) := by
  rintro pins s σ H xs us Q I r ⟨z, rfl, hz, q⟩
  obtain ⟨u, rfl, t, rfl⟩ := vals1 r
  refine PySem.call_list_str (I.ok.hd hc) z t (fun h' tk acc' c' k e it => ?_) (by rw [sizeLine_eq]; omega)
  obtain ⟨i1, i2⟩ := it
  have hsz : ((z.cps.toList.map sgn).map V.str).length = z.cps.size := by simp
  refine ⟨.ref s.heap.objs.size, _, I.laid (t' := tk) (o := .lst ((z.cps.toList.map sgn).map V.str)) (fun b o e => k b o e) (Nat.le_refl _) ⟨by rw [hsz, sizeLine_eq]; omega, acc'.toList, c', vals_get (by rw [hsz, Array.length_toList, i1]) fun j v u hv hu => ?_, by simpa using e⟩, rfl, q _ (I.hok.fresh (Nat.le_refl _))⟩
  rw [Array.getElem?_toList] at hu
  obtain ⟨c, t', hc', rfl⟩ := i2 j u hu
  rw [List.getElem?_map, List.getElem?_map, Array.getElem?_toList, hc'] at hv
  cases hv
  exact ⟨t', rfl⟩
theorem ev_listS (hc : X.calm = true) (hm : X.mg "list" = none) (h : Ev X σ H a (.str s)) (hz : s.cps.size ≤ 100000) (hg : Gl X "list" := by rfl) (hs : noStar a = true := by rfl) : Ev X σ H (.Call (.Name "list" pp) [a] [] pos) (.lst ((s.cps.toList.map sgn).map D.str)) :=
  ev_callTy (call_list_txt hc) (fun vs H hv Q q => by
    cases hv with
    | cons h1 t =>
      cases t; cases h1
      exact ⟨s, rfl, hz, fun p hp => q _ _ (Ext.new hp) (.lst upd_same (isAll_ofStrs _))⟩) hm PyProof.Rows.boot_list (eva_cons h eva_nil hs) hg (by rw [List.all_cons, hs]; rfl)
theorem ev_slTo {i : Int} (h : Ev X σ H a (.str s)) (h2 : Ev X σ H hi (.int i)) (hi0 : 0 ≤ i) (hz : s.length ≤ 100000) : Ev X σ H (.Subscript a (.Slice none (some hi) none p2) pos) (.str (SX.S (s.cps.toList.take i.toNat))) :=
  fun H1 e1 Q q => WE.of (pe_slice C8.sl_txt WE.pe po_none (po_some WE.pe)) (h H1 e1 _ fun x H2 e2 hx => h2 H2 (e1.trans e2) _ fun y H3 e3 hy => by
    cases hx; cases hy
    refine ⟨i, rfl, s, rfl, small hz, ?_⟩
    have e : s = SX.S s.cps.toList := by show s = ⟨s.cps.toList.toArray⟩; rw [Array.toArray_toList]
    have e3' := SX.slice_to (a := s.cps.toList) hi0
    rw [← e] at e3'
    rw [e3']
    exact q _ H3 (e2.trans e3) (.str _))
theorem ev_slFrom {i : Int} (h : Ev X σ H a (.str s)) (h2 : Ev X σ H lo (.int i)) (hi0 : 0 ≤ i) (hz : s.length ≤ 100000) : Ev X σ H (.Subscript a (.Slice (some lo) none none p2) pos) (.str (SX.S (s.cps.toList.drop i.toNat))) :=
  fun H1 e1 Q q => WE.of (pe_slice C8.sl_txt WE.pe (po_some WE.pe) po_none) (h H1 e1 _ fun x H2 e2 hx => h2 H2 (e1.trans e2) _ fun y H3 e3 hy => by
    cases hx; cases hy
    refine ⟨i, rfl, s, rfl, small hz, ?_⟩
    have e : s = SX.S s.cps.toList := by show s = ⟨s.cps.toList.toArray⟩; rw [Array.toArray_toList]
    have e3' := SX.slice_from (a := s.cps.toList) hi0
    rw [← e] at e3'
    rw [e3']
    exact q _ H3 (e2.trans e3) (.str _))
theorem ws_parW (i j : Nat) {x y : Str} {px py pt pt2 : Pos} {kt k2 : Nat} (hN : X.N.Nodup) (h : WE X a σ H fun v1 H1 => WE X b σ H1 fun v2 H2 => Dn.nx ((σ.set i (some v1)).set j (some v2)) H2) (hc : X.calm = true := by rfl) (hi : X.N[i]? = some x := by rfl) (hj : X.N[j]? = some y := by rfl) (hij : i ≠ j := by decide)
    (hx : X.env.scope.names.lookup x = some .local := by rfl) (hy : X.env.scope.names.lookup y = some .local := by rfl) (hs1 : noStar a = true := by rfl) (hs2 : noStar b = true := by rfl)
    (hw : swappedStores [.Tuple [.Name x px, .Name y py] kt pt] (.Tuple [a, b] k2 pt2) X.env = pure (some [x, y]) := by rfl)
    (hs : swapsWithSole [.Tuple [.Name x px, .Name y py] kt pt] (.Tuple [a, b] k2 pt2) pos.line X.env = pure false := by rfl) : WS X (.Assign [.Tuple [.Name x px, .Name y py] kt pt] (.Tuple [a, b] k2 pt2) pos) Dn σ H :=
  WS.of (ps_par hc hN hi hj hij hx hy (pa_cons WE.pe (pa_cons WE.pe pa_nil (star_cons hs2)) (star_cons hs1)) hw hs) (WE.mono h fun v H1 h1 => WE.mono h1 fun u H2 h2 => ⟨v, u, rfl, h2⟩)
theorem ws_parW' (i j : Nat) {x y : Str} {px py pt pt2 : Pos} {kt k2 : Nat} (hN : X.N.Nodup) (h : WE X a σ H fun v1 H1 => WE X b σ H1 fun v2 H2 => ∀ l, H2 l = none → Dn.nx ((σ.set i (some v1)).set j (some v2)) (upd H2 l (.tup [v1, v2]))) (hc : X.calm = true := by rfl) (hi : X.N[i]? = some x := by rfl) (hj : X.N[j]? = some y := by rfl)
    (hx : Loc X.env.scope x := by first | exact .inl rfl | exact .inr rfl) (hy : Loc X.env.scope y := by first | exact .inl rfl | exact .inr rfl) (hf : X.fn x = true ∨ X.env.scope.names.lookup x = some .local := by first | exact .inl rfl | exact .inr rfl) (hf2 : X.fn y = true ∨ X.env.scope.names.lookup y = some .local := by first | exact .inl rfl | exact .inr rfl) (hs1 : noStar a = true := by rfl) (hs2 : noStar b = true := by rfl)
    (hs : swapsWithSole [.Tuple [.Name x px, .Name y py] kt pt] (.Tuple [a, b] k2 pt2) pos.line X.env = pure false := by rfl) (hw : swappedStores [.Tuple [.Name x px, .Name y py] kt pt] (.Tuple [a, b] k2 pt2) X.env = pure none := by rfl) :
    WS X (.Assign [.Tuple [.Name x px, .Name y py] kt pt] (.Tuple [a, b] k2 pt2) pos) Dn σ H := by
  refine WS.of (ps_asg (WE.pe) (pg2 i j hc hN hi hj hx hy hf hf2) hs hw) ?_
  refine we_tup (wa_cons (WE.mono h fun v1 H1 h1 => wa_cons (WE.mono h1 fun v2 H2 h2 => wa_nil ⟨by show 2 ≤ 100000; decide, fun l hl => ?_⟩) hs2) hs1)
  exact ⟨l, [v1, v2], rfl, .of upd_same, rfl, v1, [v2], rfl, v2, [], rfl, rfl, h2 l hl⟩
theorem we_addS (h : WE X a σ H fun x H1 => ∃ i : Str, x = .str i ∧ WE X b σ H1 fun y H2 => ∃ j : Str, y = .str j ∧ i.length + j.length ≤ 100000 ∧ Q (.str (i ++ j)) H2) : WE X (.BinOp a .Add b pos) σ H Q :=
  we_op op_add_str (WE.mono h fun v H1 ⟨i, e1, h1⟩ => WE.mono h1 fun u H2 ⟨j, e2, l, h2⟩ => by subst e1; subst e2; exact ⟨i, j, rfl, rfl, small l, h2⟩)
end
theorem word_S {s : Str} (h : IsWord s) : ∃ cs : List Nat, s = SX.S cs ∧ 0 < cs.length ∧ cs.length < 9 ∧ ∀ c ∈ cs, c ∈ letters.cps.toList :=
  ⟨s.cps.toList, by show s = ⟨s.cps.toList.toArray⟩; rw [Array.toArray_toList], by have := h.1; rw [Array.length_toList]; exact this, by have := h.2.1; rw [Array.length_toList]; exact this, h.2.2⟩
theorem letters_nd : (letters.cps.toList.map sgn).Nodup := by decide +kernel
theorem pigeonS {l r : List Str} (hl : l.Nodup) (h : r.length < l.length) : ∃ x ∈ l, x ∉ r := by
  refine Classical.byContradiction fun q => ?_
  have : ∀ x ∈ l, x ∈ r := fun x hx => Classical.byContradiction fun z => q ⟨x, hx, z⟩
  have := nodup_le hl this
  omega
theorem sgn_word {c : Nat} (h : c ∈ letters.cps.toList) : IsWord (sgn c) := ⟨by show 0 < 1; decide, by show 1 < 9; decide, fun n hn => by
  have : n ∈ [c] := hn
  rw [List.mem_singleton.mp this]; exact h⟩
section
variable {P : Program} {w : World} {K : PySem.W.Frag} {mg : Str → Option Value} {base : Heap}
def Pwords : List D → Prop := fun ds => ∃ m : Nat, m ≤ 6 ∧ ds = [.int (m : Int)]
def Qwords : List D → D → Prop := fun ds d => ∃ (m : Nat) (ws : List Str), ds = [.int (m : Int)] ∧ ws.length = m ∧ ws.Nodup ∧ (∀ s ∈ ws, IsWord s) ∧ d = .lst (ws.map D.str)
abbrev N_law_words : List Str := ["_law_purse_here", "_law_many", "_law_base", "_law_near", "_law_spot", "_law_found", "_law_turn", "_law_word_here", "_law_letter"]
theorem kq_law_words (T : Top w K mg) : Kp P w K mg base "_law_words" ["_law_purse_here", "_law_many"] [] 4 (spP K 90 Pwords Qwords) := by
  have hN : N_law_words.Nodup := by decide +kernel
  refine kp_p (N := N_law_words) T 64 rfl ⟨rfl, rfl, rfl, hN, rfl, by decide +kernel, by decide +kernel⟩ (fun _ _ _ _ _ _ us hl => match us, hl with | [_, _], _ => rfl) (fun ds ⟨_, _, h⟩ => by rw [h]; rfl) ?_
  rintro cdv A outer s H p n B vs ds Q E hr st hn hv ⟨m, m6, rfl⟩ k
  obtain ⟨v1, rfl, h1⟩ := isAll1 hv
  have hr2 := hr.mono (show 2 ≤ 3 by decide)
  cases h1
  refine wss_cons (ws_parW 2 3 hN ?_)
  refine we_draw (kq_law_word T) hr st (by omega) (ev_v 0 (.obj p)) eva_nil rfl rfl fun v2 H2 d2 q2 s2 i2 => ?_
  obtain ⟨b, hb, rfl⟩ := q2
  cases i2
  refine we_eqI (we_draw (kq_law_draw T) hr2 s2 (by omega) (ev_v 0 (.obj p)) (eva_cons ev_int eva_nil) rfl ⟨3, by decide, by decide, rfl⟩ fun v3 H3 d3 q3 s3 i3 => ?_)
  obtain ⟨m3, j3, _, rfl, _⟩ := q3
  cases i3
  refine ⟨_, rfl, we_int ⟨0, rfl, ?_⟩⟩
  generalize decide ((j3 : Int) = 0) = near
  obtain ⟨cs, rfl, c0, c9, cl⟩ := word_S hb
  have bl : (SX.S cs).length = cs.length := by show cs.toArray.size = _; simp
  refine wss_cons (ws_parW' 4 5 hN ?_)
  refine we_draw (kq_law_draw T) hr2 s3 (by omega) (ev_v 0 (.obj p)) (eva_cons (ev_lenS T.f_len (ev_v 2 (.str _)) (by omega)) eva_nil) rfl ⟨cs.length, by omega, by omega, by rw [bl]⟩ fun v4 H4 d4 q4 s4 i4 => ?_
  obtain ⟨m4, j4, e4, rfl, l4⟩ := q4
  cases i4
  have l4 : j4 < cs.length := by cases e4; rw [bl] at l4; omega
  refine we_lst (wa_nil ⟨by decide, fun l hl l2 hl2 => ?_⟩)
  have hlp := s4.ne hl
  have hlB := s4.ext.back hl
  have s5 := s4.upd (o := .lst []) hlB hlp
  have hD5 : upd H4 l (.lst []) l = some (.lst []) := upd_same
  have s5' := s5.to (Ext.new (o := HO.tup [.int j4, .ref l]) hl2)
  have hD6 := Ext.new (o := HO.tup [.int j4, .ref l]) hl2 _ _ hD5
  show WSs _ _ _ _ (upd (upd H4 l (.lst [])) l2 (.tup [.int j4, .ref l]))
  generalize upd (upd H4 l (.lst [])) l2 (.tup [.int j4, .ref l]) = H5 at s5' hD6 ⊢
  refine wss_cons (ws_forS PassesOwn.never rfl (B := B) (evs_range (n := m) T.f_range (ev_v 1 (.int _)) (by omega)) (pgn 6 hN)
    (fun i σ' H' => ∃ (ws : List Str) (x6 x7 : Option V), σ' = [some (.ref p), some (.int m), some (.str (SX.S cs)), some (.bl near), some (.int j4), some (.ref l), x6, x7, none] ∧ Stp p (n + 12 + i * 11) B H' ∧ H' l = some (.lst (ws.map V.str)) ∧ ws.length = i ∧ ws.Nodup ∧ ∀ s ∈ ws, IsWord s) (fun i σ' H' ⟨_, _, _, _, h, _⟩ => h.ext)
    (fun H6 e6 => ⟨[], none, none, rfl, (s5'.to e6).mono (by omega), e6 _ _ hD6, rfl, .nil, by simp⟩) ?_ ?_)
  · rintro i d σ' H' v hd ⟨ws, x6, x7, rfl, s6, hD, rfl, nd, ww⟩ hv
    have hi : ws.length < m := by have := (List.getElem?_eq_some_iff.mp hd).1; simpa using this
    have hi7 : ws.length * 11 ≤ 66 := by omega
    have l26 : letters.length ≤ 100000 := by decide +kernel
    have st6 := s6.base
    have hDw : wo H' p l = some (.lst (ws.map V.str)) := by rw [wo_ne hlp]; exact hD
    generalize hBw : wo H' p = Bw at st6 hDw
    have eBw : Ext B Bw := hBw ▸ s6.up
    refine wss_mid (fun σ' H9 => ∃ s1 : Str, σ' = [some (.ref p), some (.int m), some (.str (SX.S cs)), some (.bl near), some (.int j4), some (.ref l), some v, some (.str s1), none] ∧ IsWord s1 ∧ Stp p (n + 12 + ws.length * 11 + 1) Bw H9) (ws_setW hN (i := 7) (we_addS (we_addS ?_))) ?_
    · refine (ev_slTo (ev_v 2 (.str (SX.S cs))) (ev_v 4 (.int (j4 : Int))) (by omega) (by omega)).we (Ext.refl H') fun v7 H7 e7 i7 => ?_
      cases i7
      refine ⟨_, rfl, we_letter (we_draw (kq_law_draw T) hr2 (st6.to e7) (by omega) (ev_v 0 (.obj p)) (eva_cons ev_int eva_nil) rfl ⟨26, by decide, by decide, rfl⟩ fun v8 H8 d8 q8 s8 i8 => ?_)⟩
      obtain ⟨m8, j8, e8, rfl, l8⟩ := q8
      cases e8
      cases i8
      refine ⟨j8, by omega, rfl, fun c hc => ⟨sgn c, rfl, ?_, _, rfl, ?_⟩⟩
      · show (List.toArray _).size + 1 ≤ 100000
        simp; omega
      refine (ev_slFrom (ev_v 2 (.str (SX.S cs))) (ev_add (ev_v 4 (.int (j4 : Int))) ev_int) (by omega) (by omega)).we (Ext.refl H8) fun v9 H9 e9 i9 => ?_
      cases i9
      have et : ((j4 : Int) + 1).toNat = j4 + 1 := by omega
      have ecs : (SX.S cs).cps.toList = cs := by simp
      have est : SX.S (cs.take j4) ++ sgn c ++ SX.S (cs.drop (j4 + 1)) = SX.S (cs.take j4 ++ [c] ++ cs.drop (j4 + 1)) := by
        rw [show sgn c = SX.S [c] from rfl, SX.S_cat, SX.S_cat]
      refine ⟨_, rfl, ?_, _, rfl, ?_, s8.to e9⟩
      · rw [et, ecs, Int.toNat_natCast]
        show ((SX.S (cs.take j4)) ++ sgn c).length + (SX.S (cs.drop (j4 + 1))).length ≤ 100000
        rw [show sgn c = SX.S [c] from rfl, SX.S_cat]
        show (List.toArray _).size + (List.toArray _).size ≤ 100000
        simp; omega
      · rw [et, ecs, Int.toNat_natCast, est]
        refine word_of ?_ ?_ fun x hx => ?_
        · simp; omega
        · simp; omega
        · rcases List.mem_append.mp hx with hx | hx
          · rcases List.mem_append.mp hx with hx | hx
            · exact cl x (List.mem_of_mem_take hx)
            · rw [List.mem_singleton.mp hx]; exact hc
          · exact cl x (List.mem_of_mem_drop hx)
    rintro _ H7 ⟨s1, rfl, hw1, s7⟩
    refine wss_mid (fun σ' H9 => ∃ s1 : Str, σ' = [some (.ref p), some (.int m), some (.str (SX.S cs)), some (.bl near), some (.int j4), some (.ref l), some v, some (.str s1), none] ∧ IsWord s1 ∧ Stp p (n + 12 + ws.length * 11 + 11) Bw H9) (ws_if (c := !near) (evt_not (evt_val (ev_v 3 (.bl near)))) (fun q H8 e8 => ?_) (fun q H8 e8 => wss_nil ⟨s1, rfl, hw1, (s7.to e8).mono (by omega)⟩)) ?_
    · refine wss_one (ws_setW hN (i := 7) (we_draw (kq_law_word T) hr (s7.to e8) (by omega) (ev_v 0 (.obj p)) eva_nil rfl rfl fun v8 H9 d8 q8 s8 i8 => ?_))
      obtain ⟨s2, hs2, rfl⟩ := q8
      cases i8
      exact ⟨s2, rfl, hs2, s8.mono (by omega)⟩
    rintro _ H8 ⟨s2, rfl, hw2, s8⟩
    have iL : ∀ H', Ext Bw H' → Is K H' (.ref l) (.lst (ws.map D.str)) := fun H' e => .lst (e _ _ hDw) (isAll_ofStrs ws)
    refine wss_mid (fun σ' H9 => ∃ s1 : Str, σ' = [some (.ref p), some (.int m), some (.str (SX.S cs)), some (.bl near), some (.int j4), some (.ref l), some v, some (.str s1), none] ∧ IsWord s1 ∧ s1 ∉ ws ∧ Stp p (n + 12 + ws.length * 11 + 11) Bw H9) (ws_if (c := decide (s2 ∈ ws)) (evt_inSL (ev_v 7 (.str s2)) (ev_v 5 (iL H8 s8.ext))) (fun q H9 e9 => ?_) (fun q H9 e9 => wss_nil ⟨s2, rfl, hw2, of_decide_eq_false q, s8.to e9⟩)) ?_
    · have s9 := s8.to e9
      obtain ⟨x0, hx0, hx1⟩ := pigeonS letters_nd (r := ws) (by rw [List.length_map, letters_len]; omega)
      cases hf : (letters.cps.toList.map sgn).filter (fun x => !decide (x ∈ ws)) with
      | nil =>
        have : x0 ∈ (letters.cps.toList.map sgn).filter (fun x => !decide (x ∈ ws)) := List.mem_filter.mpr ⟨hx0, by rw [decide_eq_false hx1]; rfl⟩
        rw [hf] at this; cases this
      | cons x rest =>
        have hx : x ∈ (letters.cps.toList.map sgn).filter (fun x => !decide (x ∈ ws)) := by rw [hf]; exact .head _
        obtain ⟨y1, y2⟩ := List.mem_filter.mp hx
        obtain ⟨c, hc, rfl⟩ := List.mem_map.mp y1
        have y2 : sgn c ∉ ws := by simpa using y2
        refine wss_one (ws_set hN (i := 7) (ev_ixLc 0 (d := .str (sgn c)) (ds := ((letters.cps.toList.map sgn).filter (fun x => !decide (x ∈ ws))).map D.str) (by rw [hf]; rfl) (ev_lcT (l := letters.cps.toList.map sgn) (E := D.str) (own := [("_law_letter", 8)]) (g := gName 8) (fun x => !decide (x ∈ ws)) D.str rfl hN (blkOk_by (by kernel_rfl)) (evi_listF (ev_listS rfl T.f_list ev_str l26)) (by rw [List.length_map, letters_len]; decide) (fun _ _ _ _ _ => pgn 8 hN) gm_name ?_ (fun _ _ _ => noLst_str _))) fun v9 Ha ea ia => ?_)
        · intro y hy v9 Ha ea ia
          exact ⟨rfl, rfl, fun _ _ _ _ _ => evt_niSL (ev_v 8 ia) (ev_v 5 (iL Ha (s9.ext.trans ea))), fun _ _ _ _ _ _ => ev_v 8 ia⟩
        · cases ia
          exact ⟨sgn c, rfl, sgn_word hc, y2, s9.to ea⟩
    rintro _ H9 ⟨s3, rfl, hw3, hn3, s9⟩
    have hD9 := s9.ext _ _ hDw
    refine wss_one (ws_append (we_v 5 ⟨l, _, rfl, hD9, by rw [List.length_map]; omega, we_v 7 ⟨hD9, ?_⟩⟩))
    refine ⟨ws ++ [s3], some v, some (.str s3), rfl, ?_, by rw [upd_same, List.map_append]; rfl, by simp, ?_, ?_⟩
    · exact ((s9.low eBw).upd hlB hlp).mono (by rw [Nat.succ_mul]; omega)
    · rw [List.nodup_append]
      exact ⟨nd, by simp, fun a ha b hb z => by rw [List.mem_singleton.mp hb] at z; subst z; exact hn3 ha⟩
    · intro s hs
      rcases List.mem_append.mp hs with hs | hs
      · exact ww s hs
      · rw [List.mem_singleton.mp hs]; exact hw3
  · rintro σ' H' ⟨ws, x6, x7, rfl, s6, hD, hlen, nd, ww⟩
    simp only [List.length_map, List.length_range] at hlen s6
    exact wss_one (ws_retW (we_v 5 (k _ H' _ ⟨m, ws, rfl, hlen, nd, ww, rfl⟩ (s6.mono (by omega)) (.lst hD (isAll_ofStrs ws)))))
end
end Wb
/-! Items, effects, manners, some rooms drawn. -/
namespace Wb
open PySem PySem.Spec L2
theorem strs_inj {l l' : List Str} (h : l.map D.str = l'.map D.str) : l = l' := by
  induction l generalizing l' with
  | nil => cases l' with
    | nil => rfl
    | cons _ _ => cases h
  | cons a l ih => cases l' with
    | nil => cases h
    | cons b l' =>
      injection h with h1 h2
      injection h1 with h1
      rw [h1, ih h2]
theorem offIs_strs (l : List Str) : offIs (l.map D.str) = true := offIs_all fun d hd => by
  obtain ⟨x, _, rfl⟩ := List.mem_map.mp hd
  rw [offI] <;> simp
theorem off_eff (e : Eff) : offI e.d = true := by cases e <;> simp [Eff.d, offI, offIs]
section
variable {X : Cx} {e a b o i t : Expr} {rest : List Expr} {σ : L2.St} {H B : Hp} {pos pp pos' apos p2 : Pos} {Dn : Ends} {Q : VK} {Qb : Bool → Hp → Prop} {xs : List D}
theorem ww_and (h : WT X a σ H fun c H1 => if c = true then WW X (.BoolOp .And (b :: rest) pos) σ H1 Qb else Qb false H1) : WW X (.BoolOp .And (a :: b :: rest) pos) σ H Qb := WW.of (pw_and WT.pt WW.pw) h
theorem ww_and1 (h : WT X a σ H Qb) : WW X (.BoolOp .And [a] pos) σ H Qb := WW.of (pw_and1 WT.pt) h
theorem wt_ww (h : WW X e σ H Qb) : WT X e σ H Qb := WT.of WW.pw.pt h
theorem wt_gtI (h : WE X a σ H fun x H1 => ∃ i, x = .int i ∧ WE X b σ H1 fun y H2 => ∃ j, y = .int j ∧ Qb (decide (j < i)) H2) : WT X (.Compare a [.Gt] [b] pos) σ H Qb :=
  wt_cmp op_gt (WE.mono h fun v H1 ⟨i, e1, h1⟩ => WE.mono h1 fun u H2 ⟨j, e2, h2⟩ => by subst e1; subst e2; exact ⟨i, j, rfl, rfl, _, rfl, h2⟩)
theorem EvT.wt {c : Bool} (h : EvT X σ B e c) (x : Ext B H) (k : ∀ H2, Ext H H2 → Qb c H2) : WT X e σ H Qb := h H x _ k
theorem eqv_nilL (xs : List D) : PyData.eqv (py (.lst xs)) (py (.lst [])) = xs.isEmpty := by
  cases xs with
  | nil => simp only [py, pys]; rfl
  | cons x xs => simp only [py, pys]; rfl
theorem evt_eqNil (hu : X.A.units + 64 < cLine) (h : Ev X σ H a (.lst xs)) (h2 : Ev X σ H b (.lst [])) : EvT X σ H (.Compare a [.Eq] [b] pos) xs.isEmpty := by
  cases xs with
  | nil => exact EvT.is (evt_cmp (op_eqD hu) (r2_eqD (by simp only [plainD, plainDs]) (by simp only [plainD, plainDs]) (by simp only [py, pys]; decide +kernel) (by simp only [py, pys]; decide +kernel)) h h2) (eqv_nilL [])
  | cons x xs => exact evt_eqLen hu h h2 (by simp)
end
section
variable {P : Program} {w : World} {K : PySem.W.Frag} {mg : Str → Option Value} {base : Heap}
def Pone : List D → Prop := fun ds => ∃ l : List Str, l ≠ [] ∧ l.length ≤ 1000 ∧ ds = [.lst (l.map D.str)]
def Qone : List D → D → Prop := fun ds d => ∃ (l : List Str) (s : Str), ds = [.lst (l.map D.str)] ∧ s ∈ l ∧ d = .str s
abbrev N_law_one_of : List Str := ["_law_purse_here", "_law_some_here"]
theorem kq_law_one_of (T : Top w K mg) : Kp P w K mg base "_law_one_of" ["_law_purse_here", "_law_some_here"] [] 3 (spP K 1 Pone Qone) := by
  have hN : N_law_one_of.Nodup := by decide +kernel
  refine kp_p (N := N_law_one_of) T 61 rfl ⟨rfl, rfl, rfl, hN, rfl, by decide +kernel, by decide +kernel⟩ (fun _ _ _ _ _ _ us hl => match us, hl with | [_, _], _ => rfl) (fun ds ⟨_, _, _, h⟩ => by rw [h]; rfl) ?_
  rintro cdv A outer s H p n B vs ds Q E hr st hn hv ⟨l, ln, l3, rfl⟩ k
  obtain ⟨v1, rfl, h1⟩ := isAll1 hv
  have l0 : 0 < l.length := List.length_pos_iff.mpr ln
  refine wss_one (ws_retW (we_ix ix_list (we_v 1 ?_)))
  have h1' := h1.mono st.ext
  refine we_draw (kq_law_draw T) (hr.mono (by decide)) st (by omega) (ev_v 0 (.obj p)) (eva_cons (ev_lenL T.f_len (ev_v 1 h1)) eva_nil) rfl ⟨l.length, by omega, by omega, by rw [List.length_map]⟩ fun v2 H2 d2 q2 s2 i2 => ?_
  obtain ⟨m, j, e2, rfl, lj⟩ := q2
  cases i2
  have lj : j < l.length := by cases e2; rw [List.length_map] at lj; omega
  have h1 := h1.mono s2.ext
  cases h1 with
  | @lst a vs _ hs ha =>
    have hv2 : (l.map D.str)[j]? = some (.str l[j]) := by rw [List.getElem?_map, List.getElem?_eq_getElem lj]; rfl
    obtain ⟨v, hv, hd⟩ := ha.get hv2
    exact ⟨a, vs, _, v, rfl, rfl, .of hs, atI_nat hv, k v H2 _ ⟨l, l[j], rfl, List.getElem_mem lj, rfl⟩ s2 hd⟩
def Qeffect : List D → D → Prop := fun _ d => ∃ e : Eff, e.ok ∧ d = e.d
abbrev N_law_effect : List Str := ["_law_purse_here", "_law_way"]
theorem kq_law_effect (T : Top w K mg) : Kp P w K mg base "_law_effect" ["_law_purse_here"] [] 3 (spP K 3 Pnone Qeffect) := by
  have hN : N_law_effect.Nodup := by decide +kernel
  refine kp_p (N := N_law_effect) T 65 rfl ⟨rfl, rfl, rfl, hN, rfl, by decide +kernel, by decide +kernel⟩ (fun _ _ _ _ _ _ us hl => match us, hl with | [_], _ => rfl) (fun ds h => by rw [h]; rfl) ?_
  rintro cdv A outer s H p n B vs ds Q E hr st hn hv rfl k
  obtain rfl := isAll0 hv
  have hr' := hr.mono (show 2 ≤ 2 by decide)
  refine wss_cons (ws_setW hN (i := 1) (we_draw (kq_law_draw T) hr' st (by omega) (ev_v 0 (.obj p)) (eva_cons ev_int eva_nil) rfl ⟨6, by decide, by decide, rfl⟩ fun v1 H1 d1 q1 s1 i1 => ?_))
  obtain ⟨m, j, e1, rfl, lj⟩ := q1
  cases e1
  cases i1
  refine wss_cons (ws_if (c := decide ((j : Int) < 3)) (evt_lt (ev_v 1 (.int (j : Int))) ev_int) (fun q H2 e2 => ?_) (fun q H2 e2 => wss_nil ?_))
  · refine wss_one (ws_ret (ev_tup (eva_cons ev_str (eva_cons (ev_intB T.f_int (ev_cmp op_gt r2_I0b (ev_v 1 (.int (j : Int))) ev_int)) eva_nil)) (by show 2 ≤ 100000; decide)) fun v H3 e3 hv => ?_)
    refine k v H3 (Eff.coins (if decide ((0 : Int) < j) = true then 1 else 0)).d ⟨_, ?_, rfl⟩ ((s1.to (e2.trans e3)).mono (by omega)) ?_
    · show (if _ then 1 else 0) ≤ 3
      split <;> decide
    · have e4 : ((if decide ((0 : Int) < j) = true then 1 else 0 : Nat) : Int) = if decide ((0 : Int) < j) = true then 1 else 0 := by split <;> rfl
      show Is K H3 v (.tup [.str "coins", .int ((if decide ((0 : Int) < j) = true then 1 else 0 : Nat) : Int)])
      rw [e4]
      exact hv
  · have s2 := s1.to e2
    refine wss_cons (ws_if (c := decide ((j : Int) = 3)) (evt_eqI (ev_v 1 (.int (j : Int))) ev_int) (fun q H3 e3 => ?_) (fun q H3 e3 => wss_nil ?_))
    · refine wss_one (ws_retW (we_tup (wa_cons (we_str (wa_cons (we_draw (kq_law_draw T) hr' (s2.to e3) (by omega) (ev_v 0 (.obj p)) (eva_cons ev_int eva_nil) rfl ⟨4, by decide, by decide, rfl⟩ fun v4 H4 d4 q4 s4 i4 => wa_nil ⟨by show 2 ≤ 100000; decide, fun l hl => ?_⟩))))))
      obtain ⟨m, g, e5, rfl, lg⟩ := q4
      cases e5
      cases i4
      exact k _ _ (Eff.coins g).d ⟨_, by show g ≤ 3; omega, rfl⟩ ((s4.to (Ext.new hl)).mono (by omega)) (.tup (.of upd_same) (.cons (.str _) (.cons (.int _) .nil)))
    · refine wss_one (ws_retW (we_if (EvT.wt (evt_eqI (ev_v 1 (.int (j : Int))) ev_int) (Ext.refl H3) fun H4 e4 => ?_)))
      have s4 := s2.to (e3.trans e4)
      cases decide ((j : Int) = 4) with
      | true =>
        refine iteT (we_tup (wa_cons (we_str (wa_cons (we_draw (kq_law_draw T) hr' s4 (by omega) (ev_v 0 (.obj p)) (eva_cons ev_int eva_nil) rfl ⟨4, by decide, by decide, rfl⟩ fun v5 H5 d5 q5 s5 i5 => ?_)))))
        obtain ⟨m, g, e5, rfl, lg⟩ := q5
        cases e5
        cases i5
        refine wa_cons (we_draw (kq_law_draw T) hr' s5 (by omega) (ev_v 0 (.obj p)) (eva_cons ev_int eva_nil) rfl ⟨4, by decide, by decide, rfl⟩ fun v6 H6 d6 q6 s6 i6 => wa_nil ⟨by show 3 ≤ 100000; decide, fun l hl => ?_⟩)
        obtain ⟨m, g2, e6, rfl, lg2⟩ := q6
        cases e6
        cases i6
        exact k _ _ (Eff.fill g g2).d ⟨_, by show g ≤ 3 ∧ g2 ≤ 3; omega, rfl⟩ ((s6.to (Ext.new hl)).mono (by omega)) (.tup (.of upd_same) (.cons (.str _) (.cons (.int _) (.cons (.int _) .nil))))
      | false =>
        refine iteF ((ev_tup (eva_cons ev_str (eva_cons ev_int (eva_cons ev_int eva_nil))) (by show 3 ≤ 100000; decide)).we (Ext.refl H4) fun v H5 e5 hv => ?_)
        exact k v H5 (Eff.fill 0 0).d ⟨_, by show 0 ≤ 3 ∧ 0 ≤ 3; decide, rfl⟩ ((s4.to e5).mono (by omega)) hv
def Pmanner : List D → Prop := fun ds => ∃ rs js : List Str, rs ≠ [] ∧ js ≠ [] ∧ rs.length ≤ 1000 ∧ js.length ≤ 1000 ∧ ds = [.lst (rs.map D.str), .lst (js.map D.str)]
def Qmanner : List D → D → Prop := fun ds d => ∃ (rs js : List Str) (x : Mnr), ds = [.lst (rs.map D.str), .lst (js.map D.str)] ∧ x.room ∈ rs ∧ x.job ∈ js ∧ x.other ∈ rs ∧ x.eff.ok ∧ d = x.d
abbrev N_law_manner : List Str := ["_law_purse_here", "_law_rooms_here", "_law_jobs"]
theorem kq_law_manner (T : Top w K mg) : Kp P w K mg base "_law_manner" ["_law_purse_here", "_law_rooms_here", "_law_jobs"] [] 4 (spP K 6 Pmanner Qmanner) := by
  have hN : N_law_manner.Nodup := by decide +kernel
  refine kp_p (N := N_law_manner) T 66 rfl ⟨rfl, rfl, rfl, hN, rfl, by decide +kernel, by decide +kernel⟩ (fun _ _ _ _ _ _ us hl => match us, hl with | [_, _, _], _ => rfl) (fun ds ⟨_, _, _, _, _, _, h⟩ => by rw [h]; rfl) ?_
  rintro cdv A outer s H p n B vs ds Q E hr st hn hv ⟨rs, js, rn, jn, r3, j3, rfl⟩ k
  obtain ⟨v1, v2, rfl, h1, h2⟩ := isAll2 hv
  refine wss_one (ws_retW (we_tup (wa_cons (we_draw (kq_law_one_of T) hr st (by omega) (ev_v 0 (.obj p)) (eva_cons (ev_v 1 h1) eva_nil) (by rw [offIs, off_strs]; rfl) ⟨rs, rn, r3, rfl⟩ fun v3 H3 d3 q3 s3 i3 => ?_))))
  obtain ⟨l, r1, e3, m3, rfl⟩ := q3
  cases i3
  obtain rfl : l = rs := by injection e3 with e3 _; injection e3 with e3; exact (strs_inj e3).symm
  refine wa_cons (we_draw (kq_law_one_of T) hr s3 (by omega) (ev_v 0 (.obj p)) (eva_cons (ev_v 2 h2) eva_nil) (by rw [offIs, off_strs]; rfl) ⟨js, jn, j3, rfl⟩ fun v4 H4 d4 q4 s4 i4 => ?_)
  obtain ⟨l', j1, e4, m4, rfl⟩ := q4
  cases i4
  obtain rfl : l' = js := by injection e4 with e4 _; injection e4 with e4; exact (strs_inj e4).symm
  refine wa_cons (we_draw (kq_law_one_of T) hr s4 (by omega) (ev_v 0 (.obj p)) (eva_cons (ev_v 1 h1) eva_nil) (by rw [offIs, off_strs]; rfl) ⟨l, rn, r3, rfl⟩ fun v5 H5 d5 q5 s5 i5 => ?_)
  obtain ⟨l2, r2, e5, m5, rfl⟩ := q5
  cases i5
  obtain rfl : l2 = l := by injection e5 with e5 _; injection e5 with e5; exact (strs_inj e5).symm
  refine wa_cons (we_draw (kq_law_effect T) hr s5 (by omega) (ev_v 0 (.obj p)) eva_nil rfl rfl fun v6 H6 d6 q6 s6 i6 => wa_nil ⟨by show 4 ≤ 100000; decide, fun t ht => ?_⟩)
  obtain ⟨e, eok, rfl⟩ := q6
  exact k _ _ (Mnr.d ⟨r1, j1, r2, e⟩) ⟨_, _, ⟨r1, j1, r2, e⟩, rfl, m3, m4, m5, eok, rfl⟩ (s6.to (Ext.new ht)) (.tup (.of upd_same) (.cons (.str _) (.cons (.str _) (.cons (.str _) (.cons (i6.mono (Ext.new ht)) .nil)))))
def Psome : List D → Prop := fun ds => ∃ rs : List Str, rs ≠ [] ∧ rs.length ≤ 3 ∧ ds = [.lst (rs.map D.str)]
def Qsome : List D → D → Prop := fun ds d => ∃ rs l : List Str, ds = [.lst (rs.map D.str)] ∧ l.Sublist rs ∧ d = .lst (l.map D.str)
abbrev N_law_some : List Str := ["_law_purse_here", "_law_rooms_here", "_law_found", "_law_room"]
theorem kq_law_some (T : Top w K mg) : Kp P w K mg base "_law_some" ["_law_purse_here", "_law_rooms_here"] [] 4 (spP K 5 Psome Qsome) := by
  have hN : N_law_some.Nodup := by decide +kernel
  refine kp_p (N := N_law_some) T 67 rfl ⟨rfl, rfl, rfl, hN, rfl, by decide +kernel, by decide +kernel⟩ (fun _ _ _ _ _ _ us hl => match us, hl with | [_, _], _ => rfl) (fun ds ⟨_, _, _, h⟩ => by rw [h]; rfl) ?_
  rintro cdv A outer s H p n B vs ds Q E hr st hn hv ⟨rs, rn, r3, rfl⟩ k
  obtain ⟨v1, rfl, h1⟩ := isAll1 hv
  have hr2 := hr.mono (show 2 ≤ 3 by decide)
  refine wss_mid (fun σ' H2 => ∃ (x3 : Option V) (v2 : V) (l : List Str), σ' = [some (.ref p), some v1, some v2, x3] ∧ Stp p (n + 3) B H2 ∧ l.Sublist rs ∧ Is K H2 v2 (.lst (l.map D.str))) (ws_lcTW 2 (own := [("_law_room", 3)]) (g := gName 3) hN (blkOk_by (by kernel_rfl)) (fun _ _ _ _ _ => pgn 3 hN) ?_) ?_
  · refine lc_draw (c := 1) (B := B) (fun R q => (evi_list (evb_v 1 h1) st.ext) H (Ext.refl _) R fun J H3 e3 y => q J H3 e3 y) (by simp; omega) gm_name tm_bk st (fun i acc _ => ∃ l : List Str, l.Sublist (rs.take i) ∧ acc = l.map V.str) (fun _ => ⟨[], List.nil_sublist _, rfl⟩) (fun _ _ _ _ _ h => h) ?_ ?_
    · rintro i d v H3 B' Dl acc hd eB s3 hv - - - - ⟨l, sl, rfl⟩
      have hi : i < rs.length := by have := (List.getElem?_eq_some_iff.mp hd).1; simpa using this
      obtain ⟨x, hx, rfl⟩ := map_get hd
      cases hv
      have tk : rs.take (i + 1) = rs.take i ++ [x] := by
        obtain ⟨h1, h2⟩ := List.getElem?_eq_some_iff.mp hx
        rw [List.take_succ_eq_append_getElem h1, h2]
      refine ⟨rfl, fun s H' C cl fp => wt_eqI (we_draw (kq_law_draw T) hr2 s3 (by omega) (ev_v 0 (.obj p)) (eva_cons ev_int eva_nil) rfl ⟨2, by decide, by decide, rfl⟩ fun v4 H4 d4 q4 s4 i4 => ?_)⟩
      obtain ⟨m, j, e4, rfl, lj⟩ := q4
      cases i4
      refine ⟨j, rfl, we_int ⟨0, rfl, ?_⟩⟩
      cases decide ((j : Int) = 0) with
      | true => exact iteT fun s H' C cl fp => we_v 3 ⟨s4.mono (by omega), l ++ [x], by rw [tk]; exact sl.append (List.Sublist.refl _), by rw [List.map_append]; rfl⟩
      | false => exact iteF ⟨s4.mono (by omega), l, by rw [tk]; exact sl.trans (List.sublist_append_left _ _), rfl⟩
    · rintro Dl acc H3 s3 - - hD - ⟨l, sl, rfl⟩
      simp only [List.length_map] at sl s3
      rw [List.take_length] at sl
      exact ⟨none, _, l, rfl, s3.mono (by omega), sl, .lst hD (isAll_ofStrs l)⟩
  rintro _ H2 ⟨x3, v2, l, rfl, s2, sl, i2⟩
  refine wss_mid (fun σ' H2 => ∃ (x3 : Option V) (v2 : V) (l : List Str), σ' = [some (.ref p), some v1, some v2, x3] ∧ Stp p (n + 5) B H2 ∧ l.Sublist rs ∧ Is K H2 v2 (.lst (l.map D.str))) (ws_ifW (wt_ww (ww_and ?_))) ?_
  · refine (evt_eqNil hr.units (ev_v 2 i2) (ev_lst eva_nil (by decide))).wt (Ext.refl H2) fun H3 e3 => ?_
    have s3 := s2.to e3
    cases (l.map D.str).isEmpty with
    | false => exact iteF (iteF (wss_nil ⟨x3, v2, l, rfl, s3.mono (by omega), sl, i2.mono e3⟩))
    | true =>
      refine iteT (ww_and1 (wt_gtI (we_draw (kq_law_draw T) hr2 s3.base (by omega) (ev_v 0 (.obj p)) (eva_cons ev_int eva_nil) rfl ⟨6, by decide, by decide, rfl⟩ fun v4 H4 d4 q4 s4 i4 => ?_)))
      obtain ⟨m, j, e4, rfl, lj⟩ := q4
      cases i4
      refine ⟨j, rfl, we_int ⟨0, rfl, ?_⟩⟩
      have i2' : Is K H4 v2 (.lst (l.map D.str)) := (s3.is (i2.mono e3) (off_strs l)).mono s4.ext
      have s4 := s4.low s3.up
      cases decide ((0 : Int) < (j : Int)) with
      | false => exact iteF (wss_nil ⟨x3, v2, l, rfl, s4.mono (by omega), sl, i2'⟩)
      | true =>
        refine iteT (wss_one (ws_setW hN (i := 2) (we_lst (wa_cons (we_draw (kq_law_one_of T) hr s4 (by omega) (ev_v 0 (.obj p)) (eva_cons (ev_v 1 h1) eva_nil) (by rw [offIs, off_strs]; rfl) ⟨rs, rn, by omega, rfl⟩ fun v5 H5 d5 q5 s5 i5 => wa_nil ⟨by show 1 ≤ 100000; decide, fun t ht => ?_⟩)))))
        obtain ⟨l2, r1, e5, m5, rfl⟩ := q5
        cases i5
        obtain rfl : l2 = rs := by injection e5 with e5 _; injection e5 with e5; exact (strs_inj e5).symm
        exact ⟨x3, _, [r1], rfl, (s5.to (Ext.new ht)).mono (by omega), List.singleton_sublist.mpr m5, .lst upd_same (.cons (.str _) .nil)⟩
  rintro _ H3 ⟨x3, v2, l, rfl, s3, sl, i3⟩
  exact wss_one (ws_retW (we_v 2 (k _ H3 _ ⟨rs, l, rfl, sl, rfl⟩ s3 i3)))
end
end Wb
/-! Worlds drawn. -/
namespace Wb
open PySem PySem.Spec L2
section
variable {X : Cx} {e a b o i t tg iter : Expr} {body : List Stmt} {g : TG} {rest : List Expr} {σ : L2.St} {H B : Hp} {pos pp pos' apos cpos p2 p0 : Pos} {Dn : Ends} {Q : VK} {p : Addr} {n : Nat}
theorem wi_range {R : It → Hp → Prop} (hm : X.mg "range" = none) (h : WE X a σ H fun v H2 => ∃ m : Nat, v = .int (m : Int) ∧ m ≤ 1000000 ∧ ∀ J, (∀ B, YlB X.K J B ((List.range m).map fun i => .int (i : Nat))) → R J H2) (hg : Gl X "range" := by rfl) (hs : noStar a = true := by rfl) : WI X tg (.Call (.Name "range" p0) [a] [] pos) σ H R :=
  WI.of (pi_range1 hg hm (pa_cons WE.pe pa_nil (star_cons hs)) (by rw [star_cons hs]; rfl)) (WE.mono h fun v H2 ⟨m, e, hm, q⟩ => by
    subst e
    refine ⟨m, rfl, by omega, by omega, q _ fun B => ?_⟩
    have y : YlB X.K (Itr 0 m) B ((List.range m).map fun i => .int (0 + (i : Nat))) := ylb_range
    have e0 : ((List.range m).map fun i => D.int (0 + (i : Nat))) = (List.range m).map fun i => D.int (i : Nat) := by simp
    rw [e0] at y
    exact y)
/-- a for whose list is drawn -/
theorem ws_forJ (hp : PassesOwn (model X.prog X.w) X.A X.env X.xe) (hi : WI X tg iter σ H fun J H2 => ∃ (xs : List D) (B : Hp) (Jv : Nat → L2.St → Hp → Prop), YlB X.K J B xs ∧ (∀ i σ' H', Jv i σ' H' → Ext B H') ∧ Jv 0 σ H2 ∧ (∀ i d σ' H' v, xs[i]? = some d → Jv i σ' H' → Is X.K B v d → g v σ' H' fun σ2 H3 => WSs X body { Dn with nx := Jv (i + 1), ct := Jv (i + 1), bk := Dn.nx } σ2 H3) ∧ ∀ σ' H', Jv xs.length σ' H' → Dn.nx σ' H')
    (hg : PG X tg g) (hc : X.calm = true := by rfl) (hf : ∀ x, foldedSetIterable iter X.env x = pure x := by intro _; rfl) : WS X (.For tg iter body [] pos) Dn σ H :=
  WS.of (ps_for hp hc WI.pi hg WSs.pss hf) ⟨fun pins s I => wpAny_mono (hi.run pins s I) (fun v s1 h => wpAny_mono h (fun itv s2 ⟨it, fp, tn, J, H2, e, I2, T, st2, f2, q⟩ => ⟨it, fp, tn, J, H2, e, I2, T, st2, f2, by
    obtain ⟨xs, B, Jv, y, hB, h0, hs, hd⟩ := q
    refine ⟨fun i m σ H => m = xs.length - i ∧ i ≤ xs.length ∧ Jv i σ H, ⟨xs.length, by simp, Nat.zero_le _, h0⟩, ?_⟩
    rintro i m σ' H' ⟨rfl, hle, pj⟩
    by_cases hlt : i < xs.length
    · refine .inr ⟨y.go i H' (hB i _ H' pj) hlt, Jv (i + 1), fun σ2 H3 p' => ⟨xs.length - (i + 1), by omega, rfl, hlt, p'⟩, fun x H'' yy => ?_⟩
      have hd' : xs[i]? = some xs[i] := List.getElem?_eq_getElem hlt
      obtain ⟨rfl, v1⟩ := y.yld i H' x H'' xs[i] (hB i _ H' pj) hd' yy
      exact hs i xs[i] σ' _ x hd' pj v1
    · have e : i = xs.length := by omega
      subst e
      exact .inl ⟨y.stop H' (hB _ _ H' pj), hd σ' H' pj⟩⟩) fun _ _ z => z) fun _ _ z => z⟩
/-- manners.append(..): what is appended draws -/
theorem ws_appM {l : Addr} {ms : List Mnr} {R : Mnr → Nat → Prop} (s : Stp p n B H) (hB : B l = none) (hl : l ≠ p) (im : Is X.K H (.ref l) (.lst (ms.map Mnr.d))) (hz : ms.length ≤ 1000) (ho : Ev X σ H o (.obj l))
    (he : ∀ H1, Ext H H1 → ∀ Q : VK, (∀ v H2 x n2, Stp p n2 (wo H1 p) H2 → Is X.K H2 v x.d → R x n2 → Q v H2) → WE X e σ H1 Q) (k : ∀ H2 x n2, R x n2 → Stp p n2 B H2 → Is X.K H2 (.ref l) (.lst ((ms ++ [x]).map Mnr.d)) → Dn.nx σ H2)
    (hb : attributeBase o "append" X.env (eval o X.env) = eval o X.env := by rfl) (hs : noStar e = true := by rfl) (hline : (apos.endLine == cpos.line) = true := by rfl)
    (hsw : swapsWith (.Call (.Attribute o "append" apos) [e] [] cpos) none pos.line X.env = pure false := by rfl) : WS X (.Expr (.Call (.Attribute o "append" apos) [e] [] cpos) pos) Dn σ H :=
  ws_append (ho H (Ext.refl _) _ fun x H1 e1 hx => by
    cases hx
    have im1 := im.mono e1
    have s1 := s.to e1
    have imw := s1.is im1 (off_rows ms)
    cases im1 with
    | @lst _ xs _ hq ha =>
      refine ⟨l, xs, rfl, hq, by rw [ha.length, List.length_map]; omega, he H1 e1 _ fun v H2 x n2 s2 iv r => ?_⟩
      have hq2 : H2 l = some (.lst xs) := s2.ext _ _ (by rw [wo_ne hl]; exact hq)
      refine ⟨hq2, k _ x n2 r ((s2.low s1.up).upd hB hl) ?_⟩
      have i2 := imw.mono s2.ext
      cases i2 with
      | @lst _ ys _ hq3 ha3 =>
        rw [hq2] at hq3
        cases hq3
        have kp : ExtN H2 (upd H2 l (.lst (xs ++ [v]))) := (Ext.refl H2).n.upd hq2
        refine .lst upd_same ?_
        rw [List.map_append]
        exact (ha3.keep kp (noLsts_all fun d hd => by obtain ⟨y, _, rfl⟩ := List.mem_map.mp hd; exact noLst_mnr y)).append (.cons (iv.keep kp (noLst_mnr x)) .nil)) hb hs hline hsw
end
/-- what a world is made of -/
structure Wd where
  rows : List Mnr
  firsts : List Str
  lasts : List Str
  rooms : List Str
  jobs : List Str
def Wd.d (w : Wd) : D := .lst [.lst (w.rows.map Mnr.d), .lst (w.firsts.map D.str), .lst (w.lasts.map D.str), .lst (w.rooms.map D.str), .lst (w.jobs.map D.str)]
structure WfRJ (rs js : List Str) : Prop where
  r0 : rs ≠ []
  r3 : rs.length ≤ 3
  rN : rs.Nodup
  rW : ∀ r ∈ rs, IsWord r
  j0 : js ≠ []
  j3 : js.length ≤ 3
  jN : js.Nodup
  jW : ∀ r ∈ js, IsWord r
structure WfRows (rs js : List Str) (ms : List Mnr) : Prop where
  nd : ms.Nodup
  few : ms.length ≤ 9
  within : ∀ x ∈ ms, x.room ∈ rs ∧ x.job ∈ js ∧ x.other ∈ rs ∧ x.eff.ok
structure WfW (w : Wd) : Prop where
  rj : WfRJ w.rooms w.jobs
  rows : WfRows w.rooms w.jobs w.rows
  firsts : w.firsts.Sublist w.rooms
  lasts : w.lasts.Sublist w.rooms
theorem WfRows.x {rs js : List Str} {ms : List Mnr} (h : WfRows rs js ms) (q : WfRJ rs js) : ∀ x ∈ ms, WfX x := fun x hx => by
  obtain ⟨a, b, c, d⟩ := h.within x hx
  exact ⟨q.rW _ a, q.jW _ b, q.rW _ c, d⟩
section
variable {P : Program} {w : World} {K : PySem.W.Frag} {mg : Str → Option Value} {base : Heap}
def Pworld_of : List D → Prop := fun ds => ∃ rs js : List Str, WfRJ rs js ∧ ds = [.lst (rs.map D.str), .lst (js.map D.str), .int 9]
def Qworld_of : List D → D → Prop := fun ds d => ∃ wd : Wd, WfW wd ∧ d = wd.d
abbrev N_law_world_of : List Str := ["_law_purse_here", "_law_rooms_here", "_law_jobs", "_law_most", "_law_manners", "_law_job", "_law_room", "_law_turn", "_law_manner_here"]
theorem kq_law_world_of (T : Top w K mg) : Kp P w K mg base "_law_world_of" ["_law_purse_here", "_law_rooms_here", "_law_jobs", "_law_most"] [] 5 (spP K 110 Pworld_of Qworld_of) := by
  have hN : N_law_world_of.Nodup := by decide +kernel
  refine kp_p (N := N_law_world_of) T 68 rfl ⟨rfl, rfl, rfl, hN, rfl, by decide +kernel, by decide +kernel⟩ (fun _ _ _ _ _ _ us hl => match us, hl with | [_, _, _, _], _ => rfl) (fun ds ⟨_, _, _, h⟩ => by rw [h]; rfl) ?_
  rintro cdv A outer s H p n B vs ds Q E hr st hn hv ⟨rs, js, rj, rfl⟩ k
  obtain ⟨v1, v2, v3, rfl, h1, h2, h3⟩ := isAll3 hv
  have hr2 := hr.mono (show 2 ≤ 4 by decide)
  have hr3 := hr.mono (show 3 ≤ 4 by decide)
  have r3 := rj.r3
  have j3 := rj.j3
  cases h3
  refine wss_cons (ws_setW hN (i := 4) (we_lst (wa_nil ⟨by decide, fun l hl => ?_⟩)))
  have hlp := st.ne hl
  have hlB := st.ext.back hl
  have s0 := st.upd (o := .lst []) hlB hlp
  have i0 : Is K (upd H l (.lst [])) (.ref l) (.lst (([] : List Mnr).map Mnr.d)) := .lst upd_same .nil
  generalize upd H l (.lst []) = H0 at s0 i0
  refine wss_mid (fun σ' H' => ∃ (x5 x6 : Option V) (ms : List Mnr), σ' = [some (.ref p), some v1, some v2, some (.int 9), some (.ref l), x5, x6, none, none] ∧ Stp p (n + 40) B H' ∧ Is K H' (.ref l) (.lst (ms.map Mnr.d)) ∧ WfRows rs js ms) (ws_ifW (wt_gtI (we_draw (kq_law_draw T) hr2 s0.base (by omega) (ev_v 0 (.obj p)) (eva_cons ev_int eva_nil) rfl ⟨3, by decide, by decide, rfl⟩ fun v H1 d q1 s1 iv => ?_))) ?_
  · obtain ⟨m, j, e1, rfl, lj⟩ := q1
    cases iv
    refine ⟨j, rfl, we_int ⟨0, rfl, ?_⟩⟩
    have i1 := (s0.is i0 (off_rows [])).mono s1.ext
    have s1 := s1.low s0.up
    cases decide ((0 : Int) < (j : Int)) with
    | false => exact iteF (wss_nil ⟨none, none, [], rfl, s1.mono (by omega), i1, ⟨.nil, by decide, by simp⟩⟩)
    | true =>
      refine iteT (wss_one (ws_forS PassesOwn.never rfl (B := B) (evs_list (evb_v 2 h2) s1.ext) (pgn 5 hN)
        (fun i σ' H' => ∃ (x5 x6 : Option V) (ms : List Mnr), σ' = [some (.ref p), some v1, some v2, some (.int 9), some (.ref l), x5, x6, none, none] ∧ Stp p (n + 1 + i * 12) B H' ∧ Is K H' (.ref l) (.lst (ms.map Mnr.d)) ∧ WfRows rs js ms ∧ ∀ x ∈ ms, x.job ∈ js.take i) (fun i σ' H' ⟨_, _, _, _, h, _⟩ => h.ext)
        (fun H2 e2 => ⟨none, none, [], rfl, (s1.to e2).mono (by omega), i1.mono e2, ⟨.nil, by decide, by simp⟩, by simp⟩) ?_ ?_))
      · rintro i d σ' H' v5 hd ⟨x5, x6, ms, rfl, s2, i2, wf, lo⟩ hv5
        have hi : i < js.length := by have := (List.getElem?_eq_some_iff.mp hd).1; simpa using this
        obtain ⟨job, hjob, rfl⟩ := map_get hd
        cases hv5
        have hjm : job ∈ js := List.mem_of_getElem? hjob
        have jtake : js.take (i + 1) = js.take i ++ [job] := by
          obtain ⟨h1, h2⟩ := List.getElem?_eq_some_iff.mp hjob
          rw [List.take_succ_eq_append_getElem h1, h2]
        have jnot : job ∉ js.take i := fun hm => by
          have nd := rj.jN
          rw [← List.take_append_drop (i + 1) js, jtake, List.append_assoc, List.nodup_append] at nd
          exact nd.2.2 job hm job (by simp) rfl
        refine wss_one (ws_forS PassesOwn.never rfl (B := B) (evs_list (evb_v 1 h1) s2.ext) (pgn 6 hN)
          (fun i2 σ' H' => ∃ (x6 : Option V) (ms : List Mnr), σ' = [some (.ref p), some v1, some v2, some (.int 9), some (.ref l), some (.str job), x6, none, none] ∧ Stp p (n + 1 + i * 12 + i2 * 4) B H' ∧ Is K H' (.ref l) (.lst (ms.map Mnr.d)) ∧ WfRows rs js ms ∧ ∀ x ∈ ms, x.job ∈ js.take i ∨ x.job = job ∧ x.room ∈ rs.take i2) (fun i σ' H' ⟨_, _, _, h, _⟩ => h.ext)
          (fun H3 e3 => ⟨x6, ms, rfl, (s2.to e3).mono (by omega), i2.mono e3, wf, fun x hx => .inl (lo x hx)⟩) ?_ ?_)
        · rintro i2 d σ' H' v6 hd ⟨x6, ms, rfl, s3, i3, wf, lo⟩ hv6
          have hi2 : i2 < rs.length := by have := (List.getElem?_eq_some_iff.mp hd).1; simpa using this
          obtain ⟨room, hroom, rfl⟩ := map_get hd
          cases hv6
          have hrm : room ∈ rs := List.mem_of_getElem? hroom
          have rtake : rs.take (i2 + 1) = rs.take i2 ++ [room] := by
            obtain ⟨h1, h2⟩ := List.getElem?_eq_some_iff.mp hroom
            rw [List.take_succ_eq_append_getElem h1, h2]
          have rnot : room ∉ rs.take i2 := fun hm => by
            have nd := rj.rN
            rw [← List.take_append_drop (i2 + 1) rs, rtake, List.append_assoc, List.nodup_append] at nd
            exact nd.2.2 room hm room (by simp) rfl
          have few := wf.few
          have bnd : i * 12 ≤ 24 := by omega
          refine wss_one (ws_if (c := decide ((ms.length : Int) < 9)) (EvT.is (evt_lt (ev_lenL T.f_len (ev_v 4 i3)) (ev_v 3 (.int 9))) (by rw [List.length_map])) (fun q H4 e4 => ?_) (fun q H4 e4 => wss_nil ⟨_, ms, rfl, (s3.to e4).mono (by omega), i3.mono e4, wf, fun x hx => (lo x hx).imp id fun ⟨a, b⟩ => ⟨a, by rw [rtake]; exact List.mem_append_left _ b⟩⟩))
          have lt9 : ms.length < 9 := by have := of_decide_eq_true q; omega
          have s4 := s3.to e4
          refine wss_one (ws_appM (R := fun x n2 => x.room = room ∧ x.job = job ∧ x.other ∈ rs ∧ x.eff.ok ∧ n2 = n + 1 + i * 12 + i2 * 4 + 4) s4 hlB hlp (i3.mono e4) (by omega) (ev_v 4 (.obj l)) (fun H5 e5 Q q5 => ?_) (fun H6 x n2 r s6 i6 => ?_))
          · have s5 := s4.to e5
            refine we_tup (wa_cons (we_v 6 (wa_cons (we_v 5 (wa_cons (we_draw (kq_law_one_of T) hr3 s5.base (by omega) (ev_v 0 (.obj p)) (eva_cons (ev_v 1 (h1.mono s5.up)) eva_nil) (by rw [offIs, off_strs]; rfl) ⟨rs, rj.r0, by omega, rfl⟩ fun v7 H7 d7 q7 s7 i7 => ?_))))))
            obtain ⟨l7, r7, e7, m7, rfl⟩ := q7
            cases i7
            obtain rfl : l7 = rs := by injection e7 with e7 _; injection e7 with e7; exact (strs_inj e7).symm
            refine wa_cons (we_draw (kq_law_effect T) hr3 s7 (by omega) (ev_v 0 (.obj p)) eva_nil rfl rfl fun v8 H8 d8 q8 s8 i8 => wa_nil ⟨by show 4 ≤ 100000; decide, fun t ht => ?_⟩)
            obtain ⟨e, eok, rfl⟩ := q8
            exact q5 _ _ ⟨room, job, r7, e⟩ _ (s8.to (Ext.new ht)) (.tup (.of upd_same) (.cons (.str _) (.cons (.str _) (.cons (.str _) (.cons (i8.mono (Ext.new ht)) .nil))))) ⟨rfl, rfl, m7, eok, by omega⟩
          · obtain ⟨x1, x2, x3, x4, rfl⟩ := r
            refine ⟨_, ms ++ [x], rfl, s6.mono (by omega), i6, ⟨?_, by rw [List.length_append, List.length_singleton]; omega, ?_⟩, ?_⟩
            · rw [List.nodup_append]
              refine ⟨wf.nd, by simp, fun a ha b hb z => ?_⟩
              rw [List.mem_singleton.mp hb] at z
              subst z
              rcases lo a ha with h | ⟨h, h2⟩
              · rw [x2] at h; exact jnot h
              · rw [x1] at h2; exact rnot h2
            · intro y hy
              rcases List.mem_append.mp hy with hy | hy
              · exact wf.within y hy
              · rw [List.mem_singleton.mp hy, x1, x2]; exact ⟨hrm, hjm, x3, x4⟩
            · intro y hy
              rcases List.mem_append.mp hy with hy | hy
              · exact (lo y hy).imp id fun ⟨a, b⟩ => ⟨a, by rw [rtake]; exact List.mem_append_left _ b⟩
              · rw [List.mem_singleton.mp hy, x1, x2]; exact .inr ⟨rfl, by rw [rtake]; simp⟩
        · rintro σ' H' ⟨x6, ms, rfl, s3, i3, wf, lo⟩
          simp only [List.length_map] at s3
          refine ⟨_, x6, ms, rfl, s3.mono (by rw [Nat.succ_mul]; omega), i3, wf, fun x hx => ?_⟩
          rw [jtake]
          rcases lo x hx with h | ⟨h, _⟩
          · exact List.mem_append_left _ h
          · rw [h]; simp
      · rintro σ' H' ⟨x5, x6, ms, rfl, s2, i2, wf, lo⟩
        simp only [List.length_map] at s2
        exact ⟨x5, x6, ms, rfl, s2.mono (by omega), i2, wf⟩
  rintro _ H1 ⟨x5, x6, ms, rfl, s1, i1, wf⟩
  refine wss_mid (fun σ' H' => ∃ (x7 x8 : Option V) (ms : List Mnr), σ' = [some (.ref p), some v1, some v2, some (.int 9), some (.ref l), x5, x6, x7, x8] ∧ Stp p (n + 100) B H' ∧ Is K H' (.ref l) (.lst (ms.map Mnr.d)) ∧ WfRows rs js ms) (ws_forJ PassesOwn.never (wi_range T.f_range (we_draw (kq_law_draw T) hr2 s1.base (by omega) (ev_v 0 (.obj p)) (eva_cons (ev_add (ev_v 3 (.int 9)) ev_int) eva_nil) rfl ⟨9 + 1, by decide, by decide, rfl⟩ fun v H2 d q2 s2 iv => ?_)) (pgn 7 hN)) ?_
  · obtain ⟨m, j, e2, rfl, lj⟩ := q2
    cases iv
    have lj : j < 10 := by cases e2; omega
    have i2 := (s1.is i1 (off_rows ms)).mono s2.ext
    have s2 := s2.low s1.up
    refine ⟨j, rfl, by omega, fun J y => ⟨_, B, fun i σ' H' => ∃ (x7 x8 : Option V) (ms : List Mnr), σ' = [some (.ref p), some v1, some v2, some (.int 9), some (.ref l), x5, x6, x7, x8] ∧ Stp p (n + 41 + i * 6) B H' ∧ Is K H' (.ref l) (.lst (ms.map Mnr.d)) ∧ WfRows rs js ms, y B, fun i σ' H' ⟨_, _, _, _, h, _⟩ => h.ext, ⟨none, none, ms, rfl, s2.mono (by omega), i2, wf⟩, ?_, ?_⟩⟩
    · rintro i d σ' H' v7 hd ⟨x7, x8, ms, rfl, s3, i3, wf⟩ hv7
      have hi : i < j := by have := (List.getElem?_eq_some_iff.mp hd).1; simpa using this
      have few := wf.few
      refine wss_cons (ws_setW hN (i := 8) (we_draw (kq_law_manner T) hr s3.base (by omega) (ev_v 0 (.obj p)) (eva_cons (ev_v 1 (h1.mono s3.up)) (eva_cons (ev_v 2 (h2.mono s3.up)) eva_nil)) (by rw [offIs, offIs, off_strs, off_strs]; rfl) ⟨rs, js, rj.r0, rj.j0, by omega, by omega, rfl⟩ fun v8 H4 d4 q4 s4 i8 => ?_))
      obtain ⟨rs', js', x, e4, x1, x2, x3, x4, rfl⟩ := q4
      obtain ⟨rfl, rfl⟩ : rs = rs' ∧ js = js' := by
        injection e4 with e5 e6
        injection e6 with e6 _
        injection e5 with e5
        injection e6 with e6
        exact ⟨strs_inj e5, strs_inj e6⟩
      have i4 := (s3.is i3 (off_rows ms)).mono s4.ext
      have s4 := s4.low s3.up
      have wx : WfX x := ⟨rj.rW _ x1, rj.jW _ x2, rj.rW _ x3, x4⟩
      refine wss_one (ws_if (c := decide ((ms.length : Int) < 9) && !decide (x ∈ ms)) (EvW.t (evw_and (EvT.is (evt_lt (ev_lenL T.f_len (ev_v 4 i4)) (ev_v 3 (.int 9))) (by rw [List.length_map])) fun _ => evw_and1 (evt_niMnr (room65 hr) (ev_v 8 i8) (ev_v 4 i4) wx (wf.x rj)))) (fun q H5 e5 => ?_) (fun q H5 e5 => wss_nil ⟨_, _, ms, rfl, (s4.to e5).mono (by omega), i4.mono e5, wf⟩))
      obtain ⟨q1, q2⟩ := Bool.and_eq_true_iff.mp q
      have q1 := of_decide_eq_true q1
      have q2 : x ∉ ms := by simpa using q2
      refine wss_one (ws_appM (R := fun y n2 => y = x ∧ n2 = n + 41 + i * 6 + 6) (s4.to e5) hlB hlp (i4.mono e5) (by omega) (ev_v 4 (.obj l)) (fun H6 e6 Q q6 => we_v 8 (q6 v8 H6 x _ ((s4.to e5).to e6).base ((i8.mono e5).mono e6) ⟨rfl, rfl⟩)) (fun H6 y n2 r s6 i6 => ?_))
      obtain ⟨rfl, rfl⟩ := r
      refine ⟨_, _, ms ++ [y], rfl, s6.mono (by omega), i6, ⟨?_, by rw [List.length_append, List.length_singleton]; omega, ?_⟩⟩
      · rw [List.nodup_append]
        exact ⟨wf.nd, by simp, fun a ha b hb z => by rw [List.mem_singleton.mp hb] at z; subst z; exact q2 ha⟩
      · intro z hz
        rcases List.mem_append.mp hz with hz | hz
        · exact wf.within z hz
        · rw [List.mem_singleton.mp hz]; exact ⟨x1, x2, x3, x4⟩
    · rintro σ' H' ⟨x7, x8, ms, rfl, s3, i3, wf⟩
      simp only [List.length_map, List.length_range] at s3
      exact ⟨x7, x8, ms, rfl, s3.mono (by omega), i3, wf⟩
  rintro _ H2 ⟨x7, x8, ms, rfl, s2, i2, wf⟩
  have ib := s2.is i2 (off_rows ms)
  refine wss_one (ws_retW (we_lst (wa_cons (we_v 4 (wa_cons (we_draw (kq_law_some T) hr s2.base (by omega) (ev_v 0 (.obj p)) (eva_cons (ev_v 1 (h1.mono s2.up)) eva_nil) (by rw [offIs, off_strs]; rfl) ⟨rs, rj.r0, r3, rfl⟩ fun v5 H5 d5 q5 s5 i5 => ?_))))))
  obtain ⟨rs', l5, e5, sl5, rfl⟩ := q5
  obtain rfl : rs' = rs := by injection e5 with e5 _; injection e5 with e5; exact (strs_inj e5).symm
  refine wa_cons (we_draw (kq_law_some T) hr s5.base (by omega) (ev_v 0 (.obj p)) (eva_cons (ev_v 1 (h1.mono (s2.up.trans s5.up))) eva_nil) (by rw [offIs, off_strs]; rfl) ⟨rs', rj.r0, r3, rfl⟩ fun v6 H6 d6 q6 s6 i6 => ?_)
  obtain ⟨rs2, l6, e6, sl6, rfl⟩ := q6
  obtain rfl : rs2 = rs' := by injection e6 with e6 _; injection e6 with e6; exact (strs_inj e6).symm
  refine wa_cons (we_v 1 (wa_cons (we_v 2 (wa_nil ⟨by show 5 ≤ 100000; decide, fun t ht => ?_⟩))))
  have eE := Ext.new (o := HO.lst [.ref l, v5, v6, v1, v2]) ht
  have eF := (s2.up.trans s5.up).trans s6.ext
  refine k _ _ (Wd.d ⟨ms, l5, l6, rs2, js⟩) ⟨⟨ms, l5, l6, rs2, js⟩, ⟨rj, wf, sl5, sl6⟩, rfl⟩ (((((s6.low s5.up).low s2.up).to eE)).mono (by omega)) ?_
  exact .lst upd_same (.cons (((ib.mono s5.up).mono s6.ext).mono eE) (.cons (((s5.is i5 (off_strs l5)).mono s6.ext).mono eE) (.cons (i6.mono eE) (.cons ((h1.mono eF).mono eE) (.cons ((h2.mono eF).mono eE) .nil)))))
def Pworld : List D → Prop := fun ds => ∃ r j : Nat, 1 ≤ r ∧ r ≤ 3 ∧ 1 ≤ j ∧ j ≤ 3 ∧ ds = [.int (r : Int), .int (j : Int), .int 9]
abbrev N_law_world : List Str := ["_law_purse_here", "_law_rooms_here", "_law_jobs", "_law_most", "_law_words_here"]
theorem kq_law_world (T : Top w K mg) : Kp P w K mg base "_law_world" ["_law_purse_here", "_law_rooms_here", "_law_jobs", "_law_most"] [] 6 (spP K 201 Pworld Qworld_of) := by
  have hN : N_law_world.Nodup := by decide +kernel
  refine kp_p (N := N_law_world) T 69 rfl ⟨rfl, rfl, rfl, hN, rfl, by decide +kernel, by decide +kernel⟩ (fun _ _ _ _ _ _ us hl => match us, hl with | [_, _, _, _], _ => rfl) (fun ds ⟨_, _, _, _, _, _, h⟩ => by rw [h]; rfl) ?_
  rintro cdv A outer s H p n B vs ds Q E hr st hn hv ⟨r, j, r1, r3, j1, j3, rfl⟩ k
  obtain ⟨v1, v2, v3, rfl, h1, h2, h3⟩ := isAll3 hv
  cases h1
  cases h2
  cases h3
  refine wss_cons (ws_setW hN (i := 4) (we_draw (kq_law_words T) (hr.mono (by decide)) st (by omega) (ev_v 0 (.obj p)) (eva_cons (ev_add (ev_v 1 (.int (r : Int))) (ev_v 2 (.int (j : Int)))) eva_nil) rfl ⟨r + j, by omega, by congr 1⟩ fun v4 H1 d1 q1 s1 i4 => ?_))
  obtain ⟨m, ws, e1, hl, nd, ww, rfl⟩ := q1
  have hl : ws.length = r + j := by
    injection e1 with e1 _
    injection e1 with e1
    omega
  have ib := s1.is i4 (off_strs ws)
  refine wss_cons (ws_ifW (wt_eqI (we_draw (kq_law_draw T) (hr.mono (by decide)) s1.base (by omega) (ev_v 0 (.obj p)) (eva_cons ev_int eva_nil) rfl ⟨4, by decide, by decide, rfl⟩ fun v5 H2 d2 q2 s2 i5 => ?_)))
  obtain ⟨m2, j2, e2, rfl, lj⟩ := q2
  cases i5
  refine ⟨j2, rfl, we_int ⟨0, rfl, ?_⟩⟩
  have tk : ∀ c : Nat, (ws.take c).map D.str = (ws.map D.str).take c := fun c => by rw [List.map_take]
  have wtk : ∀ c : Nat, ∀ x ∈ ws.take c, IsWord x := fun c x hx => ww x (List.mem_of_mem_take hx)
  have rest : ∀ (c : Nat), ∀ x ∈ ws.drop c, IsWord x := fun c x hx => ww x (List.mem_of_mem_drop hx)
  have ntk : ∀ c : Nat, (ws.take c).Nodup := fun c => List.Nodup.sublist (List.take_sublist _ _) nd
  have ndr : ∀ c : Nat, (ws.drop c).Nodup := fun c => List.Nodup.sublist (List.drop_sublist _ _) nd
  have ltk : ∀ c : Nat, c ≤ r + j → (ws.take c).length = c := fun c hc => by rw [List.length_take]; omega
  cases decide ((j2 : Int) = 0) with
  | true =>
    refine iteT (wss_one (ws_retW (we_draw (kq_law_world_of T) hr s2 (by omega) (ev_v 0 (.obj p)) (eva_cons (Ev.is (ev_cutLH (ev_v 4 ib) (ev_v 1 (.int (r : Int))) (by rw [List.length_map]; omega)) (by rw [← tk])) (eva_cons (Ev.is (ev_cutLH (ev_v 4 ib) (ev_v 2 (.int (j : Int))) (by rw [List.length_map]; omega)) (by rw [← tk])) (eva_cons (ev_v 3 (.int 9)) eva_nil))) (by rw [offIs, offIs, off_strs, off_strs]; rfl) ⟨ws.take r, ws.take j, ?_, rfl⟩ fun v6 H3 d3 q3 s3 i6 => ?_)))
    · have h1 := ltk r (by omega)
      have h2 := ltk j (by omega)
      exact ⟨fun z => by rw [z] at h1; simp at h1; omega, by omega, ntk _, wtk _, fun z => by rw [z] at h2; simp at h2; omega, by omega, ntk _, wtk _⟩
    · exact k _ _ _ q3 ((s3.low s1.up).mono (by omega)) i6
  | false =>
    refine iteF (wss_nil (wss_one (ws_retW (we_draw (kq_law_world_of T) hr s2 (by omega) (ev_v 0 (.obj p)) (eva_cons (Ev.is (ev_cutLH (ev_v 4 ib) (ev_v 1 (.int (r : Int))) (by rw [List.length_map]; omega)) (by rw [← tk])) (eva_cons (Ev.is (ev_cutLT (ev_v 4 ib) (ev_v 1 (.int (r : Int))) (by rw [List.length_map]; omega)) (by rw [← List.map_drop])) (eva_cons (ev_v 3 (.int 9)) eva_nil))) (by rw [offIs, offIs, off_strs, off_strs]; rfl) ⟨ws.take r, ws.drop r, ?_, rfl⟩ fun v6 H3 d3 q3 s3 i6 => ?_))))
    · have h1 := ltk r (by omega)
      have h2 : (ws.drop r).length = j := by rw [List.length_drop]; omega
      exact ⟨fun z => by rw [z] at h1; simp at h1; omega, by omega, ntk _, wtk _, fun z => by rw [z] at h2; simp at h2; omega, by omega, ndr _, rest _⟩
    · exact k _ _ _ q3 ((s3.low s1.up).mono (by omega)) i6
end
end Wb
/-! What the law asks of marks, kept by what expressions are made of. -/
namespace Wb
/-- a: the expression's mark, t: the writing's -/
def Rm (a t : Mk) : Prop := (a = .never ↔ t = .never) ∧ (a.pref ≤ 2 → t.pref ≤ a.pref) ∧ (t = .free → a.pref ≤ 1)
instance (a t : Mk) : Decidable (Rm a t) := inferInstanceAs (Decidable (_ ∧ _ ∧ _))
theorem all2 {p : Mk → Mk → Bool} (h : (allMk.all fun a => allMk.all fun b => p a b) = true) (a b : Mk) : p a b = true :=
  List.all_eq_true.mp (List.all_eq_true.mp h a (mem_allMk a)) b (mem_allMk b)
theorem all4 {p : Mk → Mk → Mk → Mk → Bool} (h : (allMk.all fun a => allMk.all fun b => allMk.all fun c => allMk.all fun d => p a b c d) = true) (a b c d : Mk) : p a b c d = true :=
  all2 (p := p a b) (List.all_eq_true.mp (List.all_eq_true.mp h a (mem_allMk a)) b (mem_allMk b)) c d
theorem imp_of {p q : Prop} [Decidable p] [Decidable q] (h : (!decide p || decide q) = true) (x : p) : q := by
  rw [decide_eq_true x] at h; exact of_decide_eq_true (by simpa using h)
theorem Rm_later {a t b u : Mk} (h : Rm a t) (h2 : Rm b u) : Rm (later a b) (later t u) :=
  imp_of (all4 (p := fun a t b u => !decide (Rm a t ∧ Rm b u) || decide (Rm (later a b) (later t u))) (by decide +kernel) a t b u) ⟨h, h2⟩
theorem Rm_best {a t b u : Mk} (h : Rm a t) (h2 : Rm b u) : Rm (best2 a b) (best2 t u) :=
  imp_of (all4 (p := fun a t b u => !decide (Rm a t ∧ Rm b u) || decide (Rm (best2 a b) (best2 t u))) (by decide +kernel) a t b u) ⟨h, h2⟩
theorem Rm_S {n : Nat} {F G : Nat → Mk} (h : ∀ t, t < n → Rm (F t) (G t)) : Rm (S n F) (S n G) := by
  induction n with
  | zero => exact (by decide : Rm .never .never)
  | succ n ih => exact Rm_best (ih fun t ht => h t (by omega)) (h n (by omega))
/-- .. of cards -/
def RC (n : Nat) (f g : Crd) : Prop := ∀ i, i < n → ∀ j, j < n → Rm (f i j) (g i j)
theorem RC.mul {n : Nat} {f g f' g' : Crd} (h : RC n f g) (h2 : RC n f' g') : RC n (mul n f f') (mul n g g') := fun i hi j hj =>
  Rm_S fun t ht => Rm_later (h i hi t ht) (h2 t ht j hj)
theorem RC.eq {n : Nat} {f g f' g' : Crd} (h : RC n f g) (e : EqC n f f') (e2 : EqC n g g') : RC n f' g' := fun i hi j hj => by
  rw [← e i hi j hj, ← e2 i hi j hj]; exact h i hi j hj
theorem Rm_one (a : Mk) (h : a = .free ∨ a = .never) : Rm a a := by rcases h with rfl | rfl <;> decide
theorem RC_one (n : Nat) : RC n one one := fun i _ j _ => Rm_one _ (by unfold one; by_cases h : i = j <;> simp [h])
theorem RC.pw {n : Nat} {f g : Crd} (h : RC n f g) : ∀ k, RC n (pw n f k) (Wb.pw n g k)
  | 0 => h
  | k + 1 => RC.mul (RC.pw h k) h
/-- a mark that no program's effects are worse than -/
theorem Rm_self (a : Mk) (h : a ≠ .many) : Rm a a := by revert h; cases a <;> decide

/-! ### steady cards: walks -/
theorem best2_pref (a b : Mk) : (best2 a b).pref ≤ a.pref ∧ (best2 a b).pref ≤ b.pref := by cases a <;> cases b <;> decide
theorem later_mono {a a' b b' : Mk} (h : a.pref ≤ a'.pref) (h2 : b.pref ≤ b'.pref) : (later a b).pref ≤ (later a' b').pref :=
  imp_of (all4 (p := fun a a' b b' => !decide (a.pref ≤ a'.pref ∧ b.pref ≤ b'.pref) || decide ((later a b).pref ≤ (later a' b').pref)) (by decide +kernel) a a' b b') ⟨h, h2⟩
theorem Steady.le {n : Nat} {e : Crd} (h : Steady n e) {p q t : Nat} (hp : p < n) (hq : q < n) (ht : t < n) : (e p q).pref ≤ (later (e p t) (e t q)).pref := by
  rw [← h p hp q hq]
  exact S_le (F := fun t => later (e p t) (e t q)) ht
/-- the mark of L steps along x, from a on -/
def sg (e : Crd) (x : Nat → Nat) (a : Nat) : Nat → Mk
  | 0 => .free
  | L + 1 => later (sg e x a L) (e (x (a + L)) (x (a + L + 1)))
theorem sg_add (e : Crd) (x : Nat → Nat) (a L : Nat) : ∀ M, sg e x a (L + M) = later (sg e x a L) (sg e x (a + L) M)
  | 0 => (later_free _).symm
  | M + 1 => by
    show later (sg e x a (L + M)) (e (x (a + (L + M))) (x (a + (L + M) + 1))) = later _ (later _ (e (x (a + L + M)) (x (a + L + M + 1))))
    rw [sg_add e x a L M, later_assoc, Nat.add_assoc a L M]
theorem pw_path {n : Nat} {e : Crd} : ∀ {L i j : Nat}, i < n → j < n → pw n e L i j ≠ .never → ∃ x : Nat → Nat, x 0 = i ∧ x (L + 1) = j ∧ (∀ k, x k < n) ∧ sg e x 0 (L + 1) = pw n e L i j
  | 0, i, j, hi, hj, _ => ⟨fun k => if k = 0 then i else j, rfl, rfl, fun k => by dsimp only; split <;> assumption, by
    show later .free (e (if 0 + 0 = 0 then i else j) (if 0 + 0 + 1 = 0 then i else j)) = e i j
    rw [free_later]; rfl⟩
  | L + 1, i, j, hi, hj, h => by
    obtain ⟨t, ht, et⟩ := S_ne (n := n) (F := fun t => later (pw n e L i t) (e t j)) h
    have h2 : pw n e L i t ≠ .never := fun z => h (by
      show S n _ = _
      rw [← et]
      show later (pw n e L i t) (e t j) = .never
      rw [z, never_later])
    obtain ⟨x, x0, x1, xs, xe⟩ := pw_path hi ht h2
    have hx : ∀ k, k ≤ L + 1 → (if k = L + 2 then j else x k) = x k := fun k hk => if_neg (by omega)
    have same : ∀ M, M ≤ L + 1 → sg e (fun k => if k = L + 2 then j else x k) 0 M = sg e x 0 M := by
      intro M
      induction M with
      | zero => intro _; rfl
      | succ M ih =>
        intro hM
        show later (sg e _ 0 M) (e (if 0 + M = L + 2 then j else x (0 + M)) (if 0 + M + 1 = L + 2 then j else x (0 + M + 1))) = later _ _
        rw [ih (by omega), hx _ (by omega), hx _ (by omega)]
    refine ⟨fun k => if k = L + 2 then j else x k, ?_, if_pos rfl, fun k => ?_, ?_⟩
    · show (if 0 = L + 2 then j else x 0) = i
      rw [if_neg (by omega)]; exact x0
    · show (if k = L + 2 then j else x k) < n
      split
      · exact hj
      · exact xs k
    · show later (sg e _ 0 (L + 1)) (e (if 0 + (L + 1) = L + 2 then j else x (0 + (L + 1))) (if 0 + (L + 1) + 1 = L + 2 then j else x (0 + (L + 1) + 1))) = S n _
      rw [same _ (Nat.le_refl _), hx _ (by omega), if_pos (by omega), Nat.zero_add, x1, xe]
      exact et
theorem sg_le {n : Nat} {e : Crd} (h : Steady n e) {x : Nat → Nat} (hx : ∀ k, x k < n) (a : Nat) : ∀ L, (e (x a) (x (a + L + 1))).pref ≤ (sg e x a (L + 1)).pref
  | 0 => by show _ ≤ (later .free _).pref; rw [free_later]; exact Nat.le_refl _
  | L + 1 => by
    show _ ≤ (later (sg e x a (L + 1)) (e (x (a + (L + 1))) (x (a + (L + 1) + 1)))).pref
    exact Nat.le_trans (h.le (hx a) (hx _) (hx (a + L + 1))) (later_mono (sg_le h hx a L) (Nat.le_refl _))
/-- a walk through a room twice -/
theorem Steady.loop {n : Nat} {e : Crd} (h : Steady n e) {p q : Nat} (hp : p < n) (hq : q < n) (ne : e p q ≠ .never) : ∃ t, t < n ∧ ∃ a b c : Mk, (e p t).pref ≤ a.pref ∧ (e t t).pref ≤ b.pref ∧ (e t q).pref ≤ c.pref ∧ later a (later b c) = e p q := by
  have e1 : Wb.pw n e (n + 1) p q = e p q := h.pw (n + 1) p hp q hq
  obtain ⟨x, x0, x1, xs, xe⟩ := pw_path (e := e) (L := n + 1) hp hq (by rw [e1]; exact ne)
  obtain ⟨a, b, hab, hb, hx⟩ := pigeon n (fun k => x (k + 1)) fun k _ => xs _
  have hx : x (a + 1) = x (b + 1) := hx
  refine ⟨x (a + 1), xs _, sg e x 0 (a + 1), sg e x (a + 1) (b - a - 1 + 1), sg e x (b + 1) (n - b + 1), ?_, ?_, ?_, ?_⟩
  · have := sg_le h xs 0 a
    rw [x0, Nat.zero_add] at this
    exact this
  · have := sg_le h xs (a + 1) (b - a - 1)
    rw [show a + 1 + (b - a - 1) + 1 = b + 1 by omega, ← hx] at this
    exact this
  · have := sg_le h xs (b + 1) (n - b)
    rw [show b + 1 + (n - b) + 1 = n + 1 + 1 by omega, x1, ← hx] at this
    exact this
  · rw [← e1, ← xe]
    have s1 := sg_add e x 0 (a + 1) (b - a - 1 + 1 + (n - b + 1))
    have s2 := sg_add e x (a + 1) (b - a - 1 + 1) (n - b + 1)
    rw [show a + 1 + (b - a - 1 + 1) = b + 1 by omega] at s2
    rw [Nat.zero_add, s2, show a + 1 + (b - a - 1 + 1 + (n - b + 1)) = n + 1 + 1 by omega] at s1
    exact s1.symm
/-- the card of an again, from a steady card -/
def agS (n : Nat) (e : Crd) : Crd := mul n (fun i t => later (e i t) (if e t t = .some then .many else e t t)) e
theorem agS_le {n : Nat} {e : Crd} {p q t : Nat} (ht : t < n) : (agS n e p q).pref ≤ (later (later (e p t) (if e t t = .some then .many else e t t)) (e t q)).pref :=
  S_le (F := fun t => later (later (e p t) (if e t t = .some then .many else e t t)) (e t q)) ht
theorem ne_of_pref {a b : Mk} (h : a.pref ≤ b.pref) (hb : b ≠ .never) : a ≠ .never := fun z => hb (by subst z; revert h; cases b <;> decide)
theorem later_ne {a b : Mk} : later a b ≠ .never ↔ a ≠ .never ∧ b ≠ .never := by cases a <;> cases b <;> decide
theorem pref3 {a : Mk} : a.pref ≤ 3 ↔ a ≠ .never := by cases a <;> decide
theorem later_good {a b : Mk} (ha : a.pref ≤ 1) (hb : b.pref ≤ 1) : (later a b).pref ≤ 1 := by revert ha hb; cases a <;> cases b <;> decide
theorem later_le2 {a b : Mk} (h : (later a b).pref ≤ 2) : a.pref ≤ 2 ∧ b.pref ≤ 2 := by revert h; cases a <;> cases b <;> decide
theorem later_is_free {a b : Mk} (h : later a b = .free) : a = .free ∧ b = .free := by revert h; cases a <;> cases b <;> decide
theorem RC_agS {n : Nat} {e t : Crd} (h : Steady n e) (r : RC n e t) : RC n (agS n e) t := fun p hp q hq => by
  obtain ⟨r1, r2, r3⟩ := r p hp q hq
  have up : e p q ≠ .never → agS n e p q ≠ .never := fun ne => by
    obtain ⟨s, hs, a, b, c, ha, hb, hc, z⟩ := h.loop hp hq ne
    rw [← z] at ne
    obtain ⟨na, nbc⟩ := later_ne.mp ne
    obtain ⟨nb, nc⟩ := later_ne.mp nbc
    refine ne_of_pref (agS_le hs) ?_
    refine later_ne.mpr ⟨later_ne.mpr ⟨ne_of_pref ha na, ?_⟩, ne_of_pref hc nc⟩
    split
    · decide
    · exact ne_of_pref hb nb
  have down : agS n e p q ≠ .never → ∃ s, s < n ∧ later (later (e p s) (if e s s = .some then .many else e s s)) (e s q) = agS n e p q := fun ne => S_ne (F := fun t => later (later (e p t) (if e t t = .some then .many else e t t)) (e t q)) ne
  refine ⟨⟨fun z => r1.mp ?_, fun z => ?_⟩, fun le => ?_, fun z => ?_⟩
  · exact Classical.byContradiction fun ne => up ne z
  · refine Classical.byContradiction fun ne => ?_
    obtain ⟨s, hs, es⟩ := down ne
    rw [← es] at ne
    obtain ⟨nab, nc⟩ := later_ne.mp ne
    obtain ⟨na, _⟩ := later_ne.mp nab
    exact ne_of_pref (h.le hp hq hs) (later_ne.mpr ⟨na, nc⟩) (r1.mpr z)
  · obtain ⟨s, hs, es⟩ := down (pref3.mp (by omega))
    have es' := es
    rw [← es] at le
    obtain ⟨l1, l2⟩ := later_le2 le
    obtain ⟨l3, l4⟩ := later_le2 l1
    have hl : (if e s s = .some then Mk.many else e s s) = e s s := if_neg fun z => by rw [if_pos z] at l4; revert l4; decide
    rw [hl] at es
    have k : (e p q).pref ≤ (agS n e p q).pref := by
      rw [← es]
      exact Nat.le_trans (h.le hp hq hs) (later_mono (h.le hp hs hs) (Nat.le_refl _))
    rw [es'] at le
    exact Nat.le_trans (r2 (by omega)) k
  · have f1 := r3 z
    have f2 := r2 (by omega)
    have ef : e p q = .free := by
      rw [z] at f2
      have : Mk.free.pref = 1 := rfl
      exact pref_inj (by omega)
    obtain ⟨s, hs, a, b, c, ha, hb, hc, zz⟩ := h.loop hp hq (by rw [ef]; decide)
    rw [ef] at zz
    obtain ⟨rfl, z2⟩ := later_is_free zz
    obtain ⟨rfl, rfl⟩ := later_is_free z2
    refine Nat.le_trans (agS_le hs) (later_good (later_good ha ?_) hc)
    rw [if_neg fun z => by rw [z] at hb; revert hb; decide]
    exact hb
/-- an again's card beside so many copies of a writing's -/
theorem RC_again {n k M : Nat} {f g : Crd} (hs : Steady n (pw n f k)) (h : RC n f g) : RC n (agS n (pw n f k)) (pw n (pw n g k) M) :=
  RC_agS hs (RC.eq ((h.pw k).pw M) (hs.pw M) (EqC.refl _ _))
end Wb
/-! Ways, marks, needs: what the law compares. -/
namespace Wb
open PySem PySem.Spec L2
/-- a row of manners that does a book from a room to a room -/
inductive Way (rows : List Mnr) : Str → List Str → Str → List Mnr → Prop
  | nil (r : Str) : Way rows r [] r []
  | cons {x : Mnr} {b : List Str} {g : Str} {xs : List Mnr} : x ∈ rows → Way rows x.other b g xs → Way rows x.room (x.job :: b) g (x :: xs)
def wm : List Mnr → Wb.Mk
  | [] => .free
  | x :: xs => later x.eff.mk (wm xs)
theorem eff_mk (e : Eff) : e.mk = .full ∨ e.mk = .free ∨ e.mk = .some := by
  cases e with
  | fill a b => exact .inl rfl
  | coins a => by_cases h : a = 0
               · exact .inr (.inl (if_pos h))
               · exact .inr (.inr (if_neg h))
theorem wm_mk : ∀ xs : List Mnr, wm xs = .full ∨ wm xs = .free ∨ wm xs = .some
  | [] => .inr (.inl rfl)
  | x :: xs => by
    show later x.eff.mk (wm xs) = _ ∨ later x.eff.mk (wm xs) = _ ∨ later x.eff.mk (wm xs) = _
    rcases eff_mk x.eff with h | h | h <;> rcases wm_mk xs with h2 | h2 | h2 <;> rw [h, h2] <;> decide
theorem wm_ne (xs : List Mnr) : wm xs ≠ .never := by rcases wm_mk xs with h | h | h <;> rw [h] <;> decide
section
variable {m : Mn}
theorem room_ix {r : Str} (h : r ∈ m.rooms) : ∃ i, i < m.rooms.length ∧ m.at i = r := by
  obtain ⟨i, hi, e⟩ := List.getElem_of_mem h
  exact ⟨i, hi, by unfold Mn.at; rw [getD_lt hi, e]⟩
theorem at_in {i : Nat} (h : i < m.rooms.length) : m.at i ∈ m.rooms := at_mem h
theorem jobC_le {x : Mnr} (hx : x ∈ m.rows) {i j : Nat} (hi : m.at i = x.room) (hj : m.at j = x.other) : (jobC m x.job i j).pref ≤ x.eff.mk.pref :=
  bestL_le (List.mem_map.mpr ⟨x, List.mem_filter.mpr ⟨hx, decide_eq_true ⟨hi.symm, rfl, hj.symm⟩⟩, rfl⟩)
theorem jobC_ne {job : Str} {i j : Nat} (h : jobC m job i j ≠ .never) : ∃ x ∈ m.rows, x.room = m.at i ∧ x.job = job ∧ x.other = m.at j ∧ x.eff.mk = jobC m job i j := by
  obtain ⟨x, hx, e⟩ := List.mem_map.mp (bestL_mem h)
  obtain ⟨h1, h2⟩ := List.mem_filter.mp hx
  obtain ⟨a, b, c⟩ := of_decide_eq_true h2
  exact ⟨x, h1, a, b, c, e⟩
theorem jobC_many {job : Str} {i j : Nat} : jobC m job i j ≠ .many := fun h => by
  obtain ⟨x, _, _, _, _, e⟩ := jobC_ne (m := m) (job := job) (i := i) (j := j) (by rw [h]; decide)
  rw [h] at e
  rcases eff_mk x.eff with q | q | q <;> rw [q] at e <;> cases e
theorem bookC_fold (b : List Str) : ∀ c : Crd, EqC m.rooms.length (b.foldl (fun c j => mul m.rooms.length c (jobC m j)) c) (mul m.rooms.length c (bookC m b)) := by
  induction b with
  | nil => exact fun c => (mul_one c).symm
  | cons j b ih =>
    intro c
    refine (ih _).trans ?_
    rw [mul_assoc]
    refine mul_congr (EqC.refl _ _) ?_
    refine EqC.symm ?_
    refine (ih (mul m.rooms.length one (jobC m j))).trans ?_
    exact mul_congr (one_mul _) (EqC.refl _ _)
theorem bookC_cons (j : Str) (b : List Str) : EqC m.rooms.length (bookC m (j :: b)) (mul m.rooms.length (jobC m j) (bookC m b)) :=
  (bookC_fold b _).trans (mul_congr (one_mul _) (EqC.refl _ _))
theorem bookC_append (a b : List Str) : EqC m.rooms.length (bookC m (a ++ b)) (mul m.rooms.length (bookC m a) (bookC m b)) := by
  unfold bookC
  rw [List.foldl_append]
  exact bookC_fold b _
theorem book_le (W : WfM m) {r g : Str} {b : List Str} {xs : List Mnr} (h : Way m.rows r b g xs) : ∀ {i j : Nat}, i < m.rooms.length → j < m.rooms.length → m.at i = r → m.at j = g → (bookC m b i j).pref ≤ (wm xs).pref := by
  induction h with
  | nil r =>
    intro i j hi hj e1 e2
    have : i = j := at_inj W.nd hi hj (e1.trans e2.symm)
    subst this
    show (one i i).pref ≤ 1
    unfold one
    rw [if_pos rfl]; decide
  | @cons x b g xs hx _ ih =>
    intro i j hi hj e1 e2
    obtain ⟨t, ht, et⟩ := room_ix (W.rowIn x hx).2
    rw [bookC_cons x.job b i hi j hj]
    exact Nat.le_trans (S_le (F := fun t => later (jobC m x.job i t) (bookC m b t j)) ht) (later_mono (jobC_le hx e1 et) (ih ht hj et e2))
theorem book_ne (W : WfM m) : ∀ {b : List Str} {i j : Nat}, i < m.rooms.length → j < m.rooms.length → bookC m b i j ≠ .never → ∃ xs, Way m.rows (m.at i) b (m.at j) xs ∧ wm xs = bookC m b i j
  | [], i, j, hi, hj, h => by
    have e : bookC m [] i j = if i = j then .free else .never := rfl
    by_cases c : i = j
    · subst c
      exact ⟨[], .nil _, by rw [e, if_pos rfl]; rfl⟩
    · exact absurd (by rw [e, if_neg c]) h
  | job :: b, i, j, hi, hj, h => by
    rw [bookC_cons job b i hi j hj] at h ⊢
    obtain ⟨t, ht, et⟩ := S_ne (F := fun t => later (jobC m job i t) (bookC m b t j)) h
    have h2 : later (jobC m job i t) (bookC m b t j) ≠ .never := fun z => h (et.symm.trans z)
    obtain ⟨n1, n2⟩ := later_ne.mp h2
    obtain ⟨x, hx, x1, x2, x3, x4⟩ := jobC_ne n1
    obtain ⟨xs, w, we⟩ := book_ne W ht hj n2
    refine ⟨x :: xs, ?_, ?_⟩
    · rw [← x1, ← x2]; exact .cons hx (by rw [x3]; exact w)
    · show later x.eff.mk (wm xs) = _
      rw [x4, we]; exact et
theorem book_iff (W : WfM m) {b : List Str} {i j : Nat} (hi : i < m.rooms.length) (hj : j < m.rooms.length) : bookC m b i j ≠ .never ↔ ∃ xs, Way m.rows (m.at i) b (m.at j) xs :=
  ⟨fun h => let ⟨xs, w, _⟩ := book_ne W hi hj h; ⟨xs, w⟩, fun ⟨xs, w⟩ => ne_of_pref (book_le W w hi hj rfl rfl) (wm_ne xs)⟩
/-! ### marks ahead -/
theorem fold_some {G : Mrow} {j r : Str} : ∀ (rows : List Mnr) (F : Mrow), (F r).isSome = true → (rows.foldl (aheadStep G j) F r).isSome = true
  | [], _, h => h
  | x :: rows, F, h => fold_some rows _ (by
    unfold aheadStep
    by_cases c : x.job = j
    · rw [if_pos c]
      cases G x.other with
      | none => exact h
      | some g =>
        show (if r = x.room then _ else F r : Option Wb.Mk).isSome = true
        split
        · rfl
        · exact h
    · rw [if_neg c]; exact h)
theorem fold_mem {G : Mrow} {j r : Str} {x : Mnr} : ∀ (rows : List Mnr) (F : Mrow), x ∈ rows → x.room = r → x.job = j → (G x.other).isSome = true → (rows.foldl (aheadStep G j) F r).isSome = true
  | y :: rows, F, h, h1, h2, h3 => by
    rcases List.mem_cons.mp h with rfl | h
    · refine fold_some rows _ ?_
      unfold aheadStep
      rw [if_pos h2]
      obtain ⟨g, hg⟩ := Option.isSome_iff_exists.mp h3
      rw [hg]
      show (if r = x.room then _ else F r : Option Wb.Mk).isSome = true
      rw [if_pos h1.symm]; rfl
    · exact fold_mem rows _ h h1 h2 h3
theorem ahead_of {rows : List Mnr} {r g : Str} {b : List Str} {xs : List Mnr} (h : Way rows r b g xs) : (ahead rows g b r).isSome = true := by
  induction h with
  | nil r => show (if r = r then _ else none : Option Wb.Mk).isSome = true; rw [if_pos rfl]; rfl
  | cons hx _ ih => exact fold_mem _ _ hx rfl rfl ih
theorem ahead_way {rows : List Mnr} {g : Str} : ∀ {b : List Str} {r : Str}, (ahead rows g b r).isSome = true → ∃ xs, Way rows r b g xs
  | [], r, h => by
    have h : (if r = g then some Wb.Mk.free else none).isSome = true := h
    by_cases c : r = g
    · subst c; exact ⟨[], .nil _⟩
    · rw [if_neg c] at h; cases h
  | j :: b, r, h => by
    obtain ⟨mk, hm⟩ := Option.isSome_iff_exists.mp h
    obtain ⟨x, hx, x1, x2, g', hg, _⟩ := ahead_from hm
    obtain ⟨xs, w⟩ := ahead_way (b := b) (r := x.other) (by rw [hg]; rfl)
    exact ⟨x :: xs, by rw [← x1, ← x2]; exact .cons hx w⟩
theorem ahead_card (W : WfM m) {b : List Str} {i j : Nat} (hi : i < m.rooms.length) (hj : j < m.rooms.length) : (ahead m.rows (m.at j) b (m.at i)).isSome = true ↔ bookC m b i j ≠ .never :=
  ⟨fun h => (book_iff W hi hj).mpr (ahead_way h), fun h => let ⟨_, w⟩ := (book_iff W hi hj).mp h; ahead_of w⟩
/-! ### what a way spends -/
def stp (s : Nat × Nat) : Eff → Nat × Nat
  | .coins a => (s.1, s.2 + a)
  | .fill a b => (max s.1 (s.2 + a), b)
def spn (s : Nat × Nat) (xs : List Mnr) : Nat × Nat := xs.foldl (fun s x => stp s x.eff) s
def nds (s : Nat × Nat) : Nat := max s.1 s.2
/-- what can be: behind a book in a room, spent so much -/
inductive Rc (rows : List Mnr) (firsts : List Str) : List Str → Str → Nat × Nat → Prop
  | nil {f : Str} : f ∈ firsts → Rc rows firsts [] f (0, 0)
  | snoc {b : List Str} {s : Nat × Nat} {x : Mnr} : Rc rows firsts b x.room s → x ∈ rows → Rc rows firsts (b ++ [x.job]) x.other (stp s x.eff)
theorem Way.rc {rows : List Mnr} {firsts : List Str} {r g : Str} {b : List Str} {xs : List Mnr} (h : Way rows r b g xs) : ∀ {a : List Str} {s : Nat × Nat}, Rc rows firsts a r s → Rc rows firsts (a ++ b) g (spn s xs) := by
  induction h with
  | nil r => intro a s h; rw [List.append_nil]; exact h
  | @cons x b g xs hx _ ih =>
    intro a s h
    have := ih (Rc.snoc h hx)
    rw [List.append_assoc] at this
    exact this
theorem Way.snoc {rows : List Mnr} {r g : Str} {b : List Str} {xs : List Mnr} (h : Way rows r b g xs) {x : Mnr} (hx : x ∈ rows) (e : x.room = g) : Way rows r (b ++ [x.job]) x.other (xs ++ [x]) := by
  induction h with
  | nil r => rw [← e]; exact .cons hx (.nil _)
  | cons hy _ ih => exact .cons hy (ih e)
theorem Rc.way {rows : List Mnr} {firsts : List Str} {b : List Str} {r : Str} {s : Nat × Nat} (h : Rc rows firsts b r s) : ∃ f ∈ firsts, ∃ xs, Way rows f b r xs ∧ spn (0, 0) xs = s := by
  induction h with
  | nil hf => exact ⟨_, hf, [], .nil _, rfl⟩
  | @snoc b s x _ hx ih =>
    obtain ⟨f, hf, xs, w, e⟩ := ih
    refine ⟨f, hf, xs ++ [x], w.snoc hx rfl, ?_⟩
    unfold spn at e ⊢
    rw [List.foldl_append, e]; rfl
theorem snocInd {α : Type} {P : List α → Prop} (h0 : P []) (h1 : ∀ l a, P l → P (l ++ [a])) (l : List α) : P l := by
  have : ∀ r : List α, P r.reverse := by
    intro r
    induction r with
    | nil => exact h0
    | cons a r ih => rw [List.reverse_cons]; exact h1 _ _ ih
  simpa using this l.reverse
theorem snoc_inj {α : Type} {a b : List α} {x y : α} (h : a ++ [x] = b ++ [y]) : a = b ∧ x = y := by
  obtain ⟨h1, h2⟩ := List.append_inj' h rfl
  exact ⟨h1, List.singleton_inj.mp h2⟩
theorem Rc.inv {rows : List Mnr} {firsts : List Str} {b : List Str} {j r : Str} {s : Nat × Nat} (h : Rc rows firsts (b ++ [j]) r s) : ∃ x s0, x ∈ rows ∧ x.job = j ∧ x.other = r ∧ Rc rows firsts b x.room s0 ∧ stp s0 x.eff = s := by
  generalize hc : b ++ [j] = c at h
  cases h with
  | nil _ => exact absurd hc (by simp)
  | @snoc b' s0 x h hx =>
    obtain ⟨rfl, rfl⟩ := snoc_inj hc
    exact ⟨x, s0, hx, rfl, rfl, h, rfl⟩
/-! ### the rests -/
theorem clO_mono {e : Eff} {c0 c1 p l0 : Int} (h : c0 ≤ c1) (hl : clO e c0 p = some l0) : ∃ l1, clO e c1 p = some l1 ∧ l0 ≤ l1 := by
  cases e with
  | coins a =>
    rw [clO] at hl ⊢
    by_cases q : (a : Int) > c0
    · rw [if_pos q] at hl; cases hl
    · rw [if_neg q] at hl; cases hl
      exact ⟨c1 - a, if_neg (by omega), by omega⟩
  | fill a b =>
    rw [clO] at hl ⊢
    by_cases q : (a : Int) > c0
    · rw [if_pos q] at hl; cases hl
    · rw [if_neg q] at hl
      rw [if_neg (by omega)]
      exact ⟨l0, hl, Int.le_refl _⟩
theorem clO_state {e : Eff} {p l : Int} {s : Nat × Nat} (h : (s.1 : Int) ≤ p) : clO e (p - s.2) p = some l ↔ ((stp s e).1 : Int) ≤ p ∧ ((stp s e).2 : Int) ≤ p ∧ l = p - (stp s e).2 := by
  cases e with
  | coins a =>
    show (if (a : Int) > p - s.2 then none else some (p - s.2 - a)) = some l ↔ (s.1 : Int) ≤ p ∧ ((s.2 + a : Nat) : Int) ≤ p ∧ l = p - ((s.2 + a : Nat) : Int)
    by_cases q : (a : Int) > p - s.2
    · rw [if_pos q]
      exact ⟨(fun z => by cases z), fun z => by omega⟩
    · rw [if_neg q]
      exact ⟨(fun z => by cases z; omega), fun z => by rw [z.2.2]; congr 1; omega⟩
  | fill a b =>
    show (if (a : Int) > p - s.2 then none else if (b : Int) ≤ p then some (p - b) else none) = some l ↔ ((max s.1 (s.2 + a) : Nat) : Int) ≤ p ∧ (b : Int) ≤ p ∧ l = p - b
    by_cases q : (a : Int) > p - s.2
    · rw [if_pos q]
      exact ⟨(fun z => by cases z), fun z => by omega⟩
    · rw [if_neg q]
      by_cases q2 : (b : Int) ≤ p
      · rw [if_pos q2]
        exact ⟨(fun z => by cases z; omega), fun z => by rw [z.2.2]⟩
      · rw [if_neg q2]
        exact ⟨(fun z => by cases z), fun z => by omega⟩
theorem clO_nn {e : Eff} {c p l : Int} (h : clO e c p = some l) : 0 ≤ l := by
  cases e with
  | coins a =>
    rw [clO] at h
    by_cases q : (a : Int) > c
    · rw [if_pos q] at h; cases h
    · rw [if_neg q] at h; cases h; omega
  | fill a b =>
    rw [clO] at h
    by_cases q : (a : Int) > c
    · rw [if_pos q] at h; cases h
    · rw [if_neg q] at h
      by_cases q2 : (b : Int) ≤ p
      · rw [if_pos q2] at h; cases h; omega
      · rw [if_neg q2] at h; cases h
theorem rest_keep {row : Row} {j r : Str} {p : Int} : ∀ (rows : List Mnr) (F : Row) (c : Int), F r = some c → ∃ c', rows.foldl (restStep row j p) F r = some c' ∧ c ≤ c'
  | [], F, c, h => ⟨c, h, Int.le_refl _⟩
  | x :: rows, F, c, h => by
    have : ∃ c', restStep row j p F x r = some c' ∧ c ≤ c' := by
      unfold restStep
      by_cases q : x.job = j
      · rw [if_pos q]
        cases row x.room with
        | none => exact ⟨c, h, Int.le_refl _⟩
        | some c0 =>
          cases hl : clO x.eff c0 p with
          | none => exact ⟨c, by simpa [hl] using h, Int.le_refl _⟩
          | some l =>
            simp only [hl]
            by_cases g : l > (F x.other).getD (-1)
            · rw [if_pos g]
              by_cases e : r = x.other
              · subst e
                rw [h] at g
                exact ⟨l, if_pos rfl, by have : l > c := g; omega⟩
              · exact ⟨c, by show (if r = x.other then some l else F r) = some c; rw [if_neg e]; exact h, Int.le_refl _⟩
            · rw [if_neg g]; exact ⟨c, h, Int.le_refl _⟩
      · rw [if_neg q]; exact ⟨c, h, Int.le_refl _⟩
    obtain ⟨c1, h1, l1⟩ := this
    obtain ⟨c2, h2, l2⟩ := rest_keep rows _ c1 h1
    exact ⟨c2, h2, Int.le_trans l1 l2⟩
theorem rest_ge {row : Row} {j : Str} {p c0 l : Int} {x : Mnr} : ∀ (rows : List Mnr) (F : Row), x ∈ rows → x.job = j → row x.room = some c0 → clO x.eff c0 p = some l → ∃ c, rows.foldl (restStep row j p) F x.other = some c ∧ l ≤ c
  | y :: rows, F, h, h1, h2, h3 => by
    rcases List.mem_cons.mp h with rfl | h
    · have : ∃ c, restStep row j p F x x.other = some c ∧ l ≤ c := by
        unfold restStep
        rw [if_pos h1, h2]
        simp only [h3]
        by_cases g : l > (F x.other).getD (-1)
        · rw [if_pos g]; exact ⟨l, if_pos rfl, Int.le_refl _⟩
        · rw [if_neg g]
          cases hF : F x.other with
          | none =>
            rw [hF] at g
            have := clO_nn h3
            exact absurd (show l > -1 by omega) g
          | some f =>
            rw [hF] at g
            exact ⟨f, rfl, by have : ¬ l > f := g; omega⟩
      obtain ⟨c, hc, le⟩ := this
      obtain ⟨c2, h4, l2⟩ := rest_keep (j := j) rows _ c hc
      exact ⟨c2, h4, Int.le_trans le l2⟩
    · exact rest_ge rows _ h h1 h2 h3
theorem rest_from {row : Row} {j r : Str} {p c : Int} : ∀ (rows : List Mnr) (F : Row), rows.foldl (restStep row j p) F r = some c → F r = some c ∨ ∃ x ∈ rows, x.job = j ∧ x.other = r ∧ ∃ c0, row x.room = some c0 ∧ clO x.eff c0 p = some c
  | [], F, h => .inl h
  | x :: rows, F, h => by
    rcases rest_from rows _ h with h | ⟨y, hy, q⟩
    · unfold restStep at h
      by_cases q : x.job = j
      · rw [if_pos q] at h
        cases hr : row x.room with
        | none => rw [hr] at h; exact .inl h
        | some c0 =>
          rw [hr] at h
          cases hl : clO x.eff c0 p with
          | none => simp only [hl] at h; exact .inl h
          | some l =>
            simp only [hl] at h
            by_cases g : l > (F x.other).getD (-1)
            · rw [if_pos g] at h
              by_cases e : r = x.other
              · have h : (if r = x.other then some l else F r) = some c := h
                rw [if_pos e] at h
                cases h
                exact .inr ⟨x, .head _, q, e.symm, c0, hr, hl⟩
              · have h : (if r = x.other then some l else F r) = some c := h
                rw [if_neg e] at h; exact .inl h
            · rw [if_neg g] at h; exact .inl h
      · rw [if_neg q] at h; exact .inl h
    · exact .inr ⟨y, .tail _ hy, q⟩
theorem row_ge {p : Int} {b : List Str} {r : Str} {s : Nat × Nat} (h : Rc m.rows m.firsts b r s) : (s.1 : Int) ≤ p → (s.2 : Int) ≤ p → ∃ c, rowAt m p b r = some c ∧ p - s.2 ≤ c := by
  induction h with
  | @nil f hf =>
    intro _ _
    exact ⟨p, by show (if f ∈ m.firsts then some p else none) = some p; rw [if_pos hf], by show p - ((0 : Nat) : Int) ≤ p; omega⟩
  | @snoc b s x _ hx ih =>
    intro h1 h2
    have k1 : (s.1 : Int) ≤ p ∧ (s.2 : Int) ≤ p := by
      revert h1 h2
      cases x.eff with
      | coins a =>
        show (s.1 : Int) ≤ p → ((s.2 + a : Nat) : Int) ≤ p → _
        omega
      | fill a b =>
        show ((max s.1 (s.2 + a) : Nat) : Int) ≤ p → (b : Int) ≤ p → _
        omega
    obtain ⟨c0, hc, le⟩ := ih k1.1 k1.2
    have q := (clO_state (e := x.eff) (l := p - (stp s x.eff).2) k1.1).mpr ⟨h1, h2, rfl⟩
    obtain ⟨l1, hl, le2⟩ := clO_mono le q
    obtain ⟨c, hc2, le3⟩ := rest_ge (row := rowAt m p b) (p := p) m.rows (fun _ => none) hx rfl hc hl
    exact ⟨c, by rw [rowAt_snoc]; exact hc2, by omega⟩
theorem row_from {p : Int} (hp : 0 ≤ p) (b : List Str) : ∀ (r : Str) (c : Int), rowAt m p b r = some c → ∃ s, Rc m.rows m.firsts b r s ∧ (s.1 : Int) ≤ p ∧ (s.2 : Int) ≤ p ∧ c = p - s.2 := by
  refine snocInd (P := fun b => ∀ (r : Str) (c : Int), rowAt m p b r = some c → ∃ s, Rc m.rows m.firsts b r s ∧ (s.1 : Int) ≤ p ∧ (s.2 : Int) ≤ p ∧ c = p - s.2) ?_ ?_ b
  · intro r c h
    have h : (if r ∈ m.firsts then some p else none) = some c := h
    by_cases q : r ∈ m.firsts
    · rw [if_pos q] at h; cases h
      exact ⟨(0, 0), .nil q, hp, hp, by show p = p - ((0 : Nat) : Int); omega⟩
    · rw [if_neg q] at h; cases h
  · intro b j ih r c h
    rw [rowAt_snoc] at h
    rcases rest_from m.rows _ h with h | ⟨x, hx, rfl, rfl, c0, h1, h2⟩
    · cases h
    · obtain ⟨s, hs, l1, l2, rfl⟩ := ih _ _ h1
      obtain ⟨k1, k2, k3⟩ := (clO_state l1).mp h2
      exact ⟨_, .snoc hs hx, k1, k2, k3⟩
theorem served_iff {p : Int} (hp : 0 ≤ p) {b : List Str} : servedB m b p = true ↔ ∃ l ∈ m.lasts, ∃ s, Rc m.rows m.firsts b l s ∧ (nds s : Int) ≤ p := by
  unfold servedB
  rw [List.any_eq_true]
  constructor
  · rintro ⟨l, hl, h⟩
    obtain ⟨c, hc⟩ := Option.isSome_iff_exists.mp h
    obtain ⟨s, hs, l1, l2, _⟩ := row_from hp b l c hc
    exact ⟨l, hl, s, hs, by unfold nds; omega⟩
  · rintro ⟨l, hl, s, hs, le⟩
    unfold nds at le
    obtain ⟨c, hc, _⟩ := row_ge hs (p := p) (by omega) (by omega)
    exact ⟨l, hl, by rw [hc]; rfl⟩
theorem served_mono {b : List Str} {p q : Int} (hp : 0 ≤ p) (h : p ≤ q) (hs : servedB m b p = true) : servedB m b q = true := by
  obtain ⟨l, hl, s, h1, h2⟩ := (served_iff hp).mp hs
  exact (served_iff (Int.le_trans hp h)).mpr ⟨l, hl, s, h1, Int.le_trans h2 h⟩
theorem Rc.le {rows : List Mnr} {firsts : List Str} (W : ∀ x ∈ rows, x.eff.ok) {b : List Str} {r : Str} {s : Nat × Nat} (h : Rc rows firsts b r s) : s.1 ≤ 3 * b.length ∧ s.2 ≤ 3 * b.length := by
  induction h with
  | nil _ => exact ⟨Nat.zero_le _, Nat.zero_le _⟩
  | @snoc b s x _ hx ih =>
    have ok := W x hx
    rw [List.length_append, List.length_singleton]
    revert ok
    cases x.eff with
    | coins a =>
      intro ok
      have ok : a ≤ 3 := ok
      show s.1 ≤ _ ∧ s.2 + a ≤ _
      omega
    | fill a c =>
      intro ok
      have ok : a ≤ 3 ∧ c ≤ 3 := ok
      show max s.1 (s.2 + a) ≤ _ ∧ c ≤ _
      omega
/-- the least need of the ways -/
def MinNeed (rows : List Mnr) (firsts lasts : List Str) (b : List Str) : Option Int → Prop
  | none => ∀ l ∈ lasts, ∀ s, ¬ Rc rows firsts b l s
  | some e => (∃ l ∈ lasts, ∃ s, Rc rows firsts b l s ∧ (nds s : Int) = e) ∧ ∀ l ∈ lasts, ∀ s, Rc rows firsts b l s → e ≤ (nds s : Int)
theorem need_min (W : WfM m) {b : List Str} : ∀ {o : Option Int}, MinNeed m.rows m.firsts m.lasts b o → Need m b o
  | none, h => by
    show servedB m b (3 * b.length) = false
    cases q : servedB m b (3 * b.length) with
    | false => rfl
    | true =>
      obtain ⟨l, hl, s, h1, _⟩ := (served_iff (by omega)).mp q
      exact absurd h1 (h l hl s)
  | some e, ⟨⟨l, hl, s, h1, h2⟩, h3⟩ => by
    obtain ⟨b1, b2⟩ := h1.le fun x hx => (W.rowW x hx).eff
    refine ⟨by omega, by unfold nds at h2; omega, (served_iff (by omega)).mpr ⟨l, hl, s, h1, by omega⟩, fun q q0 q1 => ?_⟩
    cases c : servedB m b q with
    | false => rfl
    | true =>
      obtain ⟨l', hl', s', h1', h2'⟩ := (served_iff q0).mp c
      have := h3 l' hl' s' h1'
      omega
/-! ### values -/
theorem val_never {f : Crd} : valM m f = .never ↔ ∀ i, i < m.rooms.length → m.at i ∈ m.firsts → ∀ j, j < m.rooms.length → m.at j ∈ m.lasts → f i j = .never := by
  unfold valM
  rw [bestL_never]
  constructor
  · intro h i hi fi j hj lj
    exact h _ (List.mem_flatMap.mpr ⟨i, List.mem_filter.mpr ⟨List.mem_range.mpr hi, decide_eq_true fi⟩, List.mem_map.mpr ⟨j, List.mem_filter.mpr ⟨List.mem_range.mpr hj, decide_eq_true lj⟩, rfl⟩⟩)
  · intro h a ha
    obtain ⟨i, hi, ha⟩ := List.mem_flatMap.mp ha
    obtain ⟨j, hj, rfl⟩ := List.mem_map.mp ha
    obtain ⟨i1, i2⟩ := List.mem_filter.mp hi
    obtain ⟨j1, j2⟩ := List.mem_filter.mp hj
    exact h i (List.mem_range.mp i1) (of_decide_eq_true i2) j (List.mem_range.mp j1) (of_decide_eq_true j2)
theorem val_le {f : Crd} {i j : Nat} (hi : i < m.rooms.length) (fi : m.at i ∈ m.firsts) (hj : j < m.rooms.length) (lj : m.at j ∈ m.lasts) : (valM m f).pref ≤ (f i j).pref :=
  bestL_le (List.mem_flatMap.mpr ⟨i, List.mem_filter.mpr ⟨List.mem_range.mpr hi, decide_eq_true fi⟩, List.mem_map.mpr ⟨j, List.mem_filter.mpr ⟨List.mem_range.mpr hj, decide_eq_true lj⟩, rfl⟩⟩)
theorem val_at {f : Crd} (h : valM m f ≠ .never) : ∃ i, i < m.rooms.length ∧ m.at i ∈ m.firsts ∧ ∃ j, j < m.rooms.length ∧ m.at j ∈ m.lasts ∧ f i j = valM m f := by
  obtain ⟨i, hi, ha⟩ := List.mem_flatMap.mp (bestL_mem h)
  obtain ⟨j, hj, e⟩ := List.mem_map.mp ha
  obtain ⟨i1, i2⟩ := List.mem_filter.mp hi
  obtain ⟨j1, j2⟩ := List.mem_filter.mp hj
  exact ⟨i, List.mem_range.mp i1, of_decide_eq_true i2, j, List.mem_range.mp j1, of_decide_eq_true j2, e⟩
theorem val_congr {f g : Crd} (h : EqC m.rooms.length f g) : valM m f = valM m g := by
  unfold valM
  congr 1
  have : ∀ i ∈ firstIx m, (lastIx m).map (fun j => f i j) = (lastIx m).map fun j => g i j := fun i hi =>
    List.map_congr_left fun j hj => h i (List.mem_range.mp (List.mem_filter.mp hi).1) j (List.mem_range.mp (List.mem_filter.mp hj).1)
  unfold List.flatMap
  rw [List.map_congr_left this]
theorem val_RC {f g : Crd} (h : RC m.rooms.length f g) : valM m f = .never ↔ valM m g = .never := by
  rw [val_never, val_never]
  exact ⟨fun k i hi fi j hj lj => (h i hi j hj).1.mp (k i hi fi j hj lj), fun k i hi fi j hj lj => (h i hi j hj).1.mpr (k i hi fi j hj lj)⟩
theorem spn_free : ∀ (xs : List Mnr) (s : Nat × Nat), wm xs ≠ .full → ∃ k, spn s xs = (s.1, s.2 + k) ∧ (wm xs = .free ↔ k = 0)
  | [], s, _ => ⟨0, rfl, ⟨fun _ => rfl, fun _ => rfl⟩⟩
  | x :: xs, s, h => by
    have h' : later x.eff.mk (wm xs) ≠ .full := h
    show ∃ k, spn (stp s x.eff) xs = (s.1, s.2 + k) ∧ (later x.eff.mk (wm xs) = .free ↔ k = 0)
    have hx : wm xs ≠ .full := fun e => h' (by rw [e]; rcases eff_mk x.eff with q | q | q <;> rw [q] <;> decide)
    cases he : x.eff with
    | fill a b =>
      rw [he] at h'
      exact absurd (by show later .full (wm xs) = .full; rcases wm_mk xs with q | q | q <;> rw [q] <;> decide) h'
    | coins a =>
      obtain ⟨k, hk, hf⟩ := spn_free xs (s.1, s.2 + a) hx
      refine ⟨a + k, by rw [← Nat.add_assoc]; exact hk, ?_⟩
      show later (if a = 0 then .free else .some) (wm xs) = .free ↔ _
      by_cases q : a = 0
      · subst q
        rw [if_pos rfl, free_later, hf, Nat.zero_add]
      · rw [if_neg q]
        constructor
        · intro z
          exact absurd (later_is_free z).1 (by decide)
        · intro z; omega
theorem val_way (W : WfM m) {b : List Str} : valM m (bookC m b) = .never ↔ ∀ l ∈ m.lasts, ∀ s, ¬ Rc m.rows m.firsts b l s := by
  rw [val_never]
  constructor
  · intro h l hl s hs
    obtain ⟨f, hf, xs, w, _⟩ := hs.way
    obtain ⟨i, hi, rfl⟩ := room_ix (W.firstIn f hf)
    obtain ⟨j, hj, rfl⟩ := room_ix (W.lastIn l hl)
    exact (book_iff W hi hj).mpr ⟨xs, w⟩ (h i hi hf j hj hl)
  · intro h i hi fi j hj lj
    refine Classical.byContradiction fun ne => ?_
    obtain ⟨xs, w⟩ := (book_iff W hi hj).mp ne
    exact h _ lj _ (w.rc (.nil fi))
theorem val_need (W : WfM m) {b : List Str} : ∀ {o : Option Int}, MinNeed m.rows m.firsts m.lasts b o → (valM m (bookC m b) = .never ↔ o = none) ∧ (valM m (bookC m b) = .free → o = some 0) ∧ (o = some 0 → valM m (bookC m b) = .full ∨ valM m (bookC m b) = .free) := fun {o} h => by
  have v := val_way W (b := b)
  have e1 : valM m (bookC m b) = .never ↔ o = none := by
    cases o with
    | none => exact ⟨fun _ => rfl, fun _ => v.mpr h⟩
    | some e =>
      obtain ⟨⟨l, hl, s, h1, _⟩, _⟩ := h
      exact ⟨fun z => absurd h1 (v.mp z l hl s), fun z => by cases z⟩
  refine ⟨e1, fun z => ?_, fun z => ?_⟩
  · obtain ⟨i, hi, fi, j, hj, lj, e⟩ := val_at (m := m) (f := bookC m b) (by rw [z]; decide)
    rw [z] at e
    obtain ⟨xs, w, we⟩ := book_ne W hi hj (by rw [e]; decide)
    rw [e] at we
    obtain ⟨k, hk, hf⟩ := spn_free xs (0, 0) (by rw [we]; decide)
    have k0 := hf.mp we
    subst k0
    have rc := w.rc (Rc.nil (rows := m.rows) fi)
    rw [List.nil_append, hk] at rc
    cases o with
    | none => exact absurd rc (h _ lj _)
    | some e =>
      obtain ⟨⟨l, hl, s, h1, h2⟩, h3⟩ := h
      have := h3 _ lj _ rc
      have e0 : e = 0 := by
        have : e ≤ ((0 : Nat) : Int) := this
        omega
      rw [e0]
  · subst z
    obtain ⟨⟨l, hl, s, h1, h2⟩, h3⟩ := h
    obtain ⟨f, hf, xs, w, e⟩ := h1.way
    obtain ⟨i, hi, rfl⟩ := room_ix (W.firstIn f hf)
    obtain ⟨j, hj, rfl⟩ := room_ix (W.lastIn l hl)
    have le := Nat.le_trans (val_le (f := bookC m b) hi hf hj hl) (book_le W w hi hj rfl rfl)
    have good : (wm xs).pref ≤ 1 := by
      by_cases q : wm xs = .full
      · rw [q]; decide
      · obtain ⟨k, hk, hfr⟩ := spn_free xs (0, 0) q
        rw [hk] at e
        subst e
        have : ((max 0 (0 + k) : Nat) : Int) = 0 := h2
        rw [hfr.mpr (by omega)]; decide
    have := Nat.le_trans le good
    revert this
    cases valM m (bookC m b) <;> decide
/-! ### expressions and what they are written as -/
theorem bookC_nil : bookC m [] = one := rfl
theorem bookC_one (s : Str) : EqC m.rooms.length (bookC m [s]) (jobC m s) := one_mul _
theorem pw_one {n : Nat} : ∀ k, EqC n (pw n one k) one
  | 0 => EqC.refl _ _
  | k + 1 => (mul_congr (pw_one k) (EqC.refl _ _)).trans (one_mul _)
theorem bookC_rep (b : List Str) : ∀ k, EqC m.rooms.length (bookC m (List.replicate (k + 1) b).flatten) (pw m.rooms.length (bookC m b) k)
  | 0 => by
    show EqC _ (bookC m ((List.replicate 1 b).flatten)) (bookC m b)
    have e : (List.replicate 1 b).flatten = b := by simp
    rw [e]; exact EqC.refl _ _
  | k + 1 => by
    have e : (List.replicate (k + 1 + 1) b).flatten = (List.replicate (k + 1) b).flatten ++ b := by
      rw [List.replicate_succ' (n := k + 1), List.flatten_append]; simp
    rw [e]
    exact (bookC_append _ _).trans (mul_congr (bookC_rep b k) (EqC.refl _ _))
theorem bk_zero {num : Nat} {e : Ex} (h : sz m num e = 0) : bk m num e = [] := List.eq_nil_of_length_eq_zero (by rw [bk_len, h])
mutual
theorem RC_ex (num : Nat) : ∀ e : Ex, RC m.rooms.length (exC m e) (bookC m (bk m num e))
  | .job s => by
    rw [exC, bk]
    exact RC.eq (fun i _ j _ => Rm_self _ jobC_many) (EqC.refl _ _) (bookC_one s).symm
  | .row es => by
    rw [exC, bk]
    exact RC.eq (RC_exs num es one (RC_one _)) (EqC.refl _ _) (one_mul _)
  | .again e => by
    rw [exC]
    have ih := RC_ex num e
    have st := (stK_spec m.rooms.length (exC m e)).1
    have key : ∀ M, RC m.rooms.length (againC m.rooms.length (exC m e)) (pw m.rooms.length (pw m.rooms.length (bookC m (bk m num e)) (stK m.rooms.length (exC m e))) M) := fun M => RC_again st ih
    by_cases h : sz m num e = 0
    · have e1 : bk m num (.again e) = [] := by rw [bk, bk_zero h]; simp
      have k0 := key 0
      rw [bk_zero h] at k0
      rw [e1]
      exact RC.eq k0 (EqC.refl _ _) (pw_one _)
    · have e1 : bk m num (.again e) = (List.replicate ((num + 1) * max m.rooms.length 1 * (stK m.rooms.length (exC m e) + 1)) (bk m num e)).flatten := by
        rw [bk, bk_len, sz, Nat.mul_div_cancel _ (Nat.pos_of_ne_zero h)]
      have hc : 0 < (num + 1) * max m.rooms.length 1 := Nat.mul_pos (by omega) (by omega)
      generalize (num + 1) * max m.rooms.length 1 = C at hc e1
      obtain ⟨M, rfl⟩ : ∃ M, C = M + 1 := ⟨C - 1, by omega⟩
      rw [e1]
      refine RC.eq (key M) (EqC.refl _ _) ?_
      rw [pw_pw]
      have e2 : (M + 1) * (stK m.rooms.length (exC m e) + 1) = ((stK m.rooms.length (exC m e) + 1) * (M + 1) - 1) + 1 := by
        rw [Nat.mul_comm]
        have : 0 < (stK m.rooms.length (exC m e) + 1) * (M + 1) := Nat.mul_pos (by omega) (by omega)
        omega
      rw [e2]
      exact (bookC_rep _ _).symm
theorem RC_exs (num : Nat) : ∀ (es : List Ex) (c : Crd) {d : Crd}, RC m.rooms.length c d → RC m.rooms.length (exCs m c es) (mul m.rooms.length d (bookC m (bks m num es)))
  | [], c, d, h => by
    rw [exCs, bks]
    exact RC.eq h (EqC.refl _ _) (mul_one _).symm
  | e :: es, c, d, h => by
    rw [exCs, bks]
    have e1 : (if 0 < sz m num e then bk m num e else []) = bk m num e := by
      by_cases q : 0 < sz m num e
      · rw [if_pos q]
      · rw [if_neg q, bk_zero (by omega)]
    rw [e1]
    refine RC.eq (RC_exs num es _ (RC.mul h (RC_ex num e))) (EqC.refl _ _) ?_
    rw [mul_assoc]
    exact mul_congr (EqC.refl _ _) (bookC_append _ _).symm
end
end
end Wb
/-! The world's manual, its rooms, a book drawn. -/
namespace Wb
open PySem PySem.Spec L2
section
variable {P : Program} {w : World} {K : PySem.W.Frag} {mg : Str → Option Value} {base : Heap}
theorem wd_ix {wd : Wd} {X : Cx} {σ : L2.St} {H : Hp} {a : Expr} {pos p : Pos} {k : Nat} (h : Ev X σ H a wd.d) :
    (Ev X σ H (.Subscript a (.Constant (.int 0) k p) pos) (.lst (wd.rows.map Mnr.d))) ∧ (Ev X σ H (.Subscript a (.Constant (.int 1) k p) pos) (.lst (wd.firsts.map D.str))) ∧ (Ev X σ H (.Subscript a (.Constant (.int 2) k p) pos) (.lst (wd.lasts.map D.str))) ∧ (Ev X σ H (.Subscript a (.Constant (.int 4) k p) pos) (.lst (wd.jobs.map D.str))) :=
  ⟨ev_ixLc 0 rfl h, ev_ixLc 1 rfl h, ev_ixLc 2 rfl h, ev_ixLc 4 rfl h⟩
theorem evb_wd {wd : Wd} {X : Cx} {σ : L2.St} {H B : Hp} {a : Expr} {pos p : Pos} {k : Nat} (h : EvB X σ H B a wd.d) (x : Ext B H) :
    (EvB X σ H B (.Subscript a (.Constant (.int 0) k p) pos) (.lst (wd.rows.map Mnr.d))) ∧ (EvB X σ H B (.Subscript a (.Constant (.int 1) k p) pos) (.lst (wd.firsts.map D.str))) ∧ (EvB X σ H B (.Subscript a (.Constant (.int 2) k p) pos) (.lst (wd.lasts.map D.str))) :=
  ⟨evb_ixLc 0 rfl h x, evb_ixLc 1 rfl h x, evb_ixLc 2 rfl h x⟩
/-! _law_manual -/
def spManual (K : PySem.W.Frag) : Sp := fun vs H Q _ => ∃ (v : V) (wd : Wd), vs = [v] ∧ Is K H v wd.d ∧ WfW wd ∧ ∀ v' H' m, Ext H H' → ManOf m wd.rows wd.firsts wd.lasts → Is K H' v' (.man m) → Q v' H'
abbrev N_law_manual : List Str := ["_law_world_here"]
theorem mkOk_of {wd : Wd} (wf : WfW wd) : MkOk [] wd.rows wd.firsts wd.lasts where
  rowN := wf.rows.nd
  few := by have := wf.rows.few; omega
  rowW := wf.rows.x wf.rj
  fN := List.Nodup.sublist wf.firsts wf.rj.rN
  lN := List.Nodup.sublist wf.lasts wf.rj.rN
  fW := fun r h => wf.rj.rW r (wf.firsts.subset h)
  lW := fun r h => wf.rj.rW r (wf.lasts.subset h)
  fF := by have := wf.firsts.length_le; have := wf.rj.r3; omega
  lF := by have := wf.lasts.length_le; have := wf.rj.r3; omega
theorem kq_law_manual (T : Top w K mg) : Kp P w K mg base "_law_manual" ["_law_world_here"] [] 8 (spManual K) := by
  have hN : N_law_manual.Nodup := by decide +kernel
  refine kp_of (N := N_law_manual) T 70 rfl ⟨rfl, rfl, rfl, hN, rfl, by decide +kernel, by decide +kernel⟩ (fun _ _ _ _ _ _ us hl => match us, hl with | [_], _ => rfl) (fun vs H Q E ⟨v, wd, h, _⟩ => by rw [h]; rfl) ?_
  rintro cdv A outer s H vs Q E hr ⟨v, wd, rfl, hv, wf, k⟩
  refine wss_one (ws_retW (we_man T hr (ev_listL T.f_list (wd_ix (ev_v 0 hv)).1) (ev_listL T.f_list (wd_ix (ev_v 0 hv)).2.1) (ev_listL T.f_list (wd_ix (ev_v 0 hv)).2.2.1) (mkOk_of wf) fun v' H' m e mo im => k v' H' m e mo im))
/-! _law_rooms -/
def roomsL (wd : Wd) : List Str := wd.rows.map Mnr.room ++ wd.rows.map Mnr.other ++ wd.firsts ++ wd.lasts
def spRooms (K : PySem.W.Frag) : Sp := fun vs H Q _ => ∃ (v : V) (wd : Wd), vs = [v] ∧ Is K H v wd.d ∧ WfW wd ∧ ∀ v' H' l, Ext H H' → l.Nodup → PyProof.Rows.sortedS l = true → (∀ r, r ∈ l ↔ r ∈ roomsL wd) → Is K H' v' (.lst (l.map D.str)) → Q v' H'
abbrev N_law_rooms : List Str := ["_law_world_here", "_law_found", "_law_room", "_law_manner_here"]
theorem roomsL_len {wd : Wd} (wf : WfW wd) : (roomsL wd).length ≤ 24 := by
  have := wf.rows.few
  have := wf.firsts.length_le
  have := wf.lasts.length_le
  have := wf.rj.r3
  unfold roomsL
  simp only [List.length_append, List.length_map]
  omega
theorem kq_law_rooms (T : Top w K mg) : Kp P w K mg base "_law_rooms" ["_law_world_here"] [] 2 (spRooms K) := by
  have hN : N_law_rooms.Nodup := by decide +kernel
  refine kp_of (N := N_law_rooms) T 71 rfl ⟨rfl, rfl, rfl, hN, rfl, by decide +kernel, by decide +kernel⟩ (fun _ _ _ _ _ _ us hl => match us, hl with | [_], _ => rfl) (fun vs H Q E ⟨v, wd, h, _⟩ => by rw [h]; rfl) ?_
  rintro cdv A outer s H vs Q E hr ⟨v, wd, rfl, hv, wf, k⟩
  have few := wf.rows.few
  have lF := wf.firsts.length_le
  have lL := wf.lasts.length_le
  have r3 := wf.rj.r3
  refine wss_cons (ws_set hN (i := 1) (ev_lst eva_nil (by decide)) fun v1 H1 e1 i1 => ?_)
  have hv1 := hv.mono e1
  refine wss_cons (ws_forI PassesOwn.never rfl (xs := (roomsL wd).map D.str) (evi_listF ?_) (pgn 2 hN) (fun B i σ' H' => ∃ (v1 : V) (x2 : Option V) (l : List Str), σ' = [some v, some v1, x2, none] ∧ Ext H1 H' ∧ Is K H' v1 (.lst (l.map D.str)) ∧ l.Nodup ∧ l.length ≤ i ∧ ∀ r, r ∈ l ↔ r ∈ (roomsL wd).take i)
    (fun B H2 e2 e3 => ⟨v1, none, [], rfl, e2.trans e3, i1.mono (e2.trans e3), .nil, Nat.le_refl _, by simp⟩) ?_ ?_)
  · refine Ev.is (ev_catL (xs := (wd.rows.map Mnr.room ++ wd.rows.map Mnr.other ++ wd.firsts).map D.str) (ys := wd.lasts.map D.str) (Ev.is (ev_catL (xs := (wd.rows.map Mnr.room ++ wd.rows.map Mnr.other).map D.str) (ys := wd.firsts.map D.str) (Ev.is (ev_catL (xs := (wd.rows.map Mnr.room).map D.str) (ys := (wd.rows.map Mnr.other).map D.str)
      (Ev.is (ev_lcN (l := wd.rows) (E := Mnr.d) (own := [("_law_manner_here", 3)]) (g := gName 3) (fun y => .str y.room) rfl hN (blkOk_by (by kernel_rfl)) (EvIB.i (evi_list (evb_wd (evb_v 0 hv1) (Ext.refl _)).1 (Ext.refl _)) (Ext.refl _)) (by omega) (fun _ _ _ _ _ => pgn 3 hN) gm_name (fun y hy v6 H4 e4 i6 => ⟨rfl, rfl, fun _ _ _ _ _ => ev_ixTc 0 (d := .str y.room) rfl (ev_v 3 (show Is K H4 v6 (.tup [.str y.room, .str y.job, .str y.other, y.eff.d]) from i6))⟩) (fun _ _ => noLst_str _)) (by rw [List.map_map]; rfl))
      (Ev.is (ev_lcN (l := wd.rows) (E := Mnr.d) (own := [("_law_manner_here", 3)]) (g := gName 3) (fun y => .str y.other) rfl hN (blkOk_by (by kernel_rfl)) (EvIB.i (evi_list (evb_wd (evb_v 0 hv1) (Ext.refl _)).1 (Ext.refl _)) (Ext.refl _)) (by omega) (fun _ _ _ _ _ => pgn 3 hN) gm_name (fun y hy v6 H4 e4 i6 => ⟨rfl, rfl, fun _ _ _ _ _ => ev_ixTc 2 (d := .str y.other) rfl (ev_v 3 (show Is K H4 v6 (.tup [.str y.room, .str y.job, .str y.other, y.eff.d]) from i6))⟩) (fun _ _ => noLst_str _)) (by rw [List.map_map]; rfl))
      (by simp only [List.length_map]; omega)) (by rw [← List.map_append])) (wd_ix (ev_v 0 hv1)).2.1 (by simp only [List.length_map, List.length_append]; omega)) (by rw [← List.map_append])) (wd_ix (ev_v 0 hv1)).2.2.1 (by simp only [List.length_map, List.length_append]; omega)) (by rw [← List.map_append]; rfl)
  · rintro B i d σ' H' v2 H'' hd eB ⟨v1, x2, l, rfl, e2, i2, nd, ln, me⟩ e3 hv2
    obtain ⟨r, hr0, rfl⟩ := map_get hd
    have hi : i < (roomsL wd).length := (List.getElem?_eq_some_iff.mp hr0).1
    have len := roomsL_len wf
    have tk : (roomsL wd).take (i + 1) = (roomsL wd).take i ++ [r] := by
      obtain ⟨h1, h2⟩ := List.getElem?_eq_some_iff.mp hr0
      rw [List.take_succ_eq_append_getElem h1, h2]
    have i3 := i2.mono e3
    cases hv2
    refine wss_one (ws_set hN (i := 1) (ev_catL (xs := l.map D.str) (ys := (if r ∈ l then [] else [r]).map D.str) (ev_v 1 i3) (Ev.is (ev_repL (n := if r ∈ l then 0 else 1) (ev_lst (eva_cons (ev_v 2 (.str r)) eva_nil) (by show 1 ≤ 100000; decide)) (Ev.is (ev_intB T.f_int (ev_niSL (ev_v 2 (.str r)) (ev_v 1 i3))) ?_) (by split <;> decide) (by show 1 * _ ≤ 100000; split <;> decide)) ?_) ?_) fun v4 H4 e4 i4 => ?_)
    · by_cases c : r ∈ l
      · rw [decide_eq_true c, if_pos c]; rfl
      · rw [decide_eq_false c, if_neg c]; rfl
    · by_cases c : r ∈ l
      · rw [if_pos c, if_pos c]; rfl
      · rw [if_neg c, if_neg c]; rfl
    · rw [List.length_map, List.length_map]
      split <;> (simp only [List.length_nil, List.length_singleton]; omega)
    · rw [← List.map_append] at i4
      refine ⟨(eB.trans e3).trans e4, v4, _, l ++ (if r ∈ l then [] else [r]), rfl, (e2.trans e3).trans e4, i4, ?_, ?_, fun x => ?_⟩
      · by_cases c : r ∈ l
        · rw [if_pos c, List.append_nil]; exact nd
        · rw [if_neg c, List.nodup_append]
          exact ⟨nd, by simp, fun a ha b hb z => by rw [List.mem_singleton.mp hb] at z; subst z; exact c ha⟩
      · rw [List.length_append]
        split <;> (simp only [List.length_nil, List.length_singleton]; omega)
      · rw [tk, List.mem_append, List.mem_append, ← me x]
        by_cases c : r ∈ l
        · rw [if_pos c]
          constructor
          · rintro (h | h)
            · exact .inl h
            · cases h
          · rintro (h | h)
            · exact .inl h
            · rw [List.mem_singleton.mp h]; exact .inl c
        · rw [if_neg c]
  · rintro B σ' H' eB ⟨v1, x2, l, rfl, e2, i2, nd, ln, me⟩
    rw [List.length_map, List.take_length] at me
    have len := roomsL_len wf
    rw [List.length_map] at ln
    refine wss_one (ws_retW (we_sortS T.f_sorted (ev_v 1 i2) (by omega) fun v3 H3 ys e3 pm so i3 => k v3 H3 ys ((e1.trans e2).trans e3) (pm.nodup_iff.mpr nd) so (fun r => by rw [pm.mem_iff, me]) i3))
end
end Wb
/-! A book drawn. -/
namespace Wb
open PySem PySem.Spec L2
section
variable {X : Cx} {a b : Expr} {σ : L2.St} {H : Hp} {pos : Pos}
theorem evt_neNilD {xs : List D} (hu : X.A.units + 64 < cLine) (pl : plainD (.lst xs) = true) (sh : SeqAt.shaped (py (.lst xs)) = true) (h : Ev X σ H a (.lst xs)) (h2 : Ev X σ H b (.lst [])) : EvT X σ H (.Compare a [.NotEq] [b] pos) (!xs.isEmpty) :=
  EvT.is (evt_cmp (op_neD hu) (r2_neD pl (by simp only [plainD, plainDs]) sh (by simp only [py, pys]; decide +kernel)) h h2) (by rw [eqv_nilL])
theorem we_lcB {iter tg elt test : Expr} {scope : Scope} {own : List (Str × Nat)} {g : TG} {Q : VK} (hN : X.N.Nodup) (ok : BlkOk X.N X.env.scope scope own) (hg : ∀ s H C cl fp, PG (Bk X scope s H C cl fp) tg g) (h : tLc (WI X tg iter) g (bkT X scope test) (bkE X scope elt) (own.map (·.2)) σ H Q) (hc : X.calm = true := by rfl) (hf : ∀ x, foldedSetIterable iter X.env x = pure x := by intro _; rfl) : WE X (.ListComp elt [⟨tg, iter, [test], 0⟩] scope pos) σ H Q :=
  WE.of (pe_lc hc hN WI.pi ok hg (tt := bkT X scope test) (fun s H C cl fp => pts_one ⟨fun pins s' σ H Q I h => (h _ _ _ _ _).run pins s' I⟩) (te := bkE X scope elt) (fun s H C cl fp => ⟨fun pins s' σ H Q I h => (h _ _ _ _ _).run pins s' I⟩) hf) h
theorem plain_strs (l : List Str) : plainD (.lst (l.map D.str)) = true := by rw [plainD]; exact plain_map fun _ _ => rfl
theorem shaped_strs {l : List Str} (h : ∀ s ∈ l, IsWord s) : SeqAt.shaped (py (.lst (l.map D.str))) = true := by
  rw [py, pys_map]
  exact (Shp.lst (k := 0) fun d hd => by obtain ⟨x, hx, rfl⟩ := List.mem_map.mp hd; exact Shp.str (word_ok (h x hx))).ok (by decide)
theorem evt_neNilS {l : List Str} (hu : X.A.units + 64 < cLine) (hw : ∀ s ∈ l, IsWord s) (h : Ev X σ H a (.lst (l.map D.str))) (h2 : Ev X σ H b (.lst [])) : EvT X σ H (.Compare a [.NotEq] [b] pos) (!l.isEmpty) :=
  EvT.is (evt_neNilD hu (plain_strs l) (shaped_strs hw) h h2) (by cases l <;> rfl)
end
section
variable {P : Program} {w : World} {K : PySem.W.Frag} {mg : Str → Option Value} {base : Heap}
def Pbook : List D → Prop := fun ds => ∃ wd : Wd, WfW wd ∧ ds = [wd.d, .int 12]
def Qbook : List D → D → Prop := fun ds d => ∃ bs : List Str, bs.length ≤ 12 ∧ (∀ s ∈ bs, IsWord s) ∧ d = bookD bs
theorem off_wd (wd : Wd) : offI wd.d = true := by
  unfold Wd.d
  rw [offI, offIs, offIs, offIs, offIs, offIs, offIs, off_rows, off_strs, off_strs, off_strs, off_strs]
  rfl
abbrev N_law_done_book : List Str := ["_law_purse_here", "_law_world_here", "_law_most", "_law_rooms_here", "_law_book", "_law_turn", "_law_jobs", "_law_manner_here", "_law_job"]
theorem kq_law_done_book (T : Top w K mg) : Kp P w K mg base "_law_done_book" ["_law_purse_here", "_law_world_here", "_law_most"] [] 4 (spP K 13 Pbook Qbook) := by
  have hN : N_law_done_book.Nodup := by decide +kernel
  refine kp_p (N := N_law_done_book) T 72 rfl ⟨rfl, rfl, rfl, hN, rfl, by decide +kernel, by decide +kernel⟩ (fun _ _ _ _ _ _ us hl => match us, hl with | [_, _, _], _ => rfl) (fun ds ⟨_, _, h⟩ => by rw [h]; rfl) ?_
  rintro cdv A outer s H p n B vs ds Q E hr st hn hv ⟨wd, wf, rfl⟩ k
  obtain ⟨v1, v2, rfl, h1, h2⟩ := isAll2 hv
  cases h2
  have hr2 := hr.mono (show 2 ≤ 3 by decide)
  have few := wf.rows.few
  refine wss_cons (ws_set hN (i := 3) (ev_listL T.f_list (wd_ix (ev_v 1 (h1.mono st.ext))).2.1) fun v3 H1 e1 i3 => ?_)
  have st1 := st.to e1
  refine wss_cons (ws_setW hN (i := 4) (we_lst (wa_nil ⟨by decide, fun l hl => ?_⟩)))
  have hlp := st1.ne hl
  have hlB := st1.ext.back hl
  have s0 := st1.upd (o := .lst []) hlB hlp
  have i3 := i3.mono (Ext.new (o := .lst []) hl)
  have hD : upd H1 l (.lst []) l = some (.lst (([] : List Str).map V.str)) := upd_same
  generalize upd H1 l (.lst []) = H0 at s0 i3 hD
  have hDw : wo H0 p l = some (.lst (([] : List Str).map V.str)) := by rw [wo_ne hlp]; exact hD
  have i3w := s0.is i3 (off_strs _)
  refine wss_cons (ws_forJ PassesOwn.never (wi_range T.f_range (we_draw (kq_law_draw T) hr2 s0.base (by omega) (ev_v 0 (.obj p)) (eva_cons (ev_add (ev_v 2 (.int 12)) ev_int) eva_nil) rfl ⟨12 + 1, by decide, by decide, rfl⟩ fun v H2 d q2 s2 iv => ?_)) (pgn 5 hN))
  obtain ⟨m, j, e2, rfl, lj⟩ := q2
  cases iv
  have lj : j ≤ 12 := by cases e2; omega
  have i3 := i3w.mono s2.ext
  have hD := s2.ext _ _ hDw
  have s2 := s2.low s0.up
  refine ⟨j, rfl, by omega, fun J y => ⟨_, B, fun i σ' H' => ∃ (v3 : V) (x5 x6 x8 : Option V) (rs bs : List Str), σ' = [some (.ref p), some v1, some (.int 12), some v3, some (.ref l), x5, x6, none, x8] ∧ Stp p (n + 1 + i) B H' ∧ Is K H' v3 (.lst (rs.map D.str)) ∧ H' l = some (.lst (bs.map V.str)) ∧ bs.length ≤ i ∧ ∀ s ∈ bs, IsWord s, y B, fun i σ' H' ⟨_, _, _, _, _, _, _, h, _⟩ => h.ext, ⟨v3, none, none, none, wd.firsts, [], rfl, s2, i3, hD, Nat.le_refl _, by simp⟩, ?_, ?_⟩⟩
  · rintro i d σ' H' v5 hd ⟨v3, x5, x6, x8, rs, bs, rfl, s3, i3, hD, hlen, hw⟩ hv5
    have hi : i < j := by have := (List.getElem?_eq_some_iff.mp hd).1; simpa using this
    have wdI : ∀ {H'' : Hp}, Ext B H'' → Is K H'' v1 wd.d := fun e => h1.mono e
    refine wss_cons (ws_lcT (l := wd.rows) (E := Mnr.d) (own := [("_law_manner_here", 7)]) (g := gName 7) 6 (fun x => decide (x.room ∈ rs)) (fun x => .str x.job) hN (blkOk_by (by kernel_rfl)) (EvIB.i (evi_list (evb_wd (evb_v 1 (wdI s3.ext)) (Ext.refl _)).1 (Ext.refl _)) (Ext.refl _)) (by omega) (fun _ _ _ _ _ => pgn 7 hN) gm_name (fun x hx v7 H4 e4 i7 => ?_) (fun _ _ _ => noLst_str _) fun v6 H3 e3 i6 => ?_)
    · have i7 : Is K H4 v7 (.tup [.str x.room, .str x.job, .str x.other, x.eff.d]) := i7
      exact ⟨rfl, rfl, fun _ _ _ _ _ => evt_inSL (ev_ixTc 0 (d := .str x.room) rfl (ev_v 7 i7)) (ev_v 3 (i3.mono e4)), fun _ _ _ _ _ _ => ev_ixTc 1 (d := .str x.job) rfl (ev_v 7 i7)⟩
    have s4 := s3.to e3
    have i3 := i3.mono e3
    have hD := e3 _ _ hD
    have ejs : (wd.rows.filter fun x => decide (x.room ∈ rs)).map (fun x => D.str x.job) = ((wd.rows.filter fun x => decide (x.room ∈ rs)).map Mnr.job).map D.str := by rw [List.map_map]; rfl
    rw [ejs] at i6
    have jw : ∀ s ∈ (wd.rows.filter fun x => decide (x.room ∈ rs)).map Mnr.job, IsWord s := fun s hs => by
      obtain ⟨x, hx, rfl⟩ := List.mem_map.mp hs
      exact (wf.rows.x wf.rj x (List.mem_filter.mp hx).1).job
    have jl : ((wd.rows.filter fun x => decide (x.room ∈ rs)).map Mnr.job).length ≤ 9 := by rw [List.length_map]; exact Nat.le_trans (List.length_filter_le _ _) few
    generalize (wd.rows.filter fun x => decide (x.room ∈ rs)).map Mnr.job = js at i6 jw jl
    refine wss_one (ws_if (c := !js.isEmpty) (evt_neNilS hr.units jw (ev_v 6 i6) (ev_lst eva_nil (by decide))) (fun q H4 e4 => ?_) (fun q H4 e4 => wss_nil ⟨_, _, _, _, rs, bs, rfl, (s4.to e4).mono (by omega), i3.mono e4, e4 _ _ hD, by omega, hw⟩))
    have jn : js ≠ [] := fun z => by rw [z] at q; cases q
    have s5 := s4.to e4
    have hDw : wo H4 p l = some (.lst (bs.map V.str)) := by rw [wo_ne hlp]; exact e4 _ _ hD
    have i3w := s5.is (i3.mono e4) (off_strs _)
    refine wss_cons (ws_setW hN (i := 8) (we_draw (kq_law_one_of T) hr s5.base (by omega) (ev_v 0 (.obj p)) (eva_cons (ev_v 6 (s5.is (i6.mono e4) (off_strs _))) eva_nil) (by rw [offIs, off_strs]; rfl) ⟨js, jn, by omega, rfl⟩ fun v8 H5 d5 q5 s6 i8 => ?_))
    obtain ⟨js', job, e5, jm, rfl⟩ := q5
    obtain rfl : js' = js := by injection e5 with e5 _; injection e5 with e5; exact (strs_inj e5).symm
    cases i8
    have i3 := i3w.mono s6.ext
    have hD := s6.ext _ _ hDw
    have s6 := s6.low s5.up
    have i3b := s6.is i3 (off_strs rs)
    refine wss_cons (ws_setW hN (i := 3) (we_lcB (own := [("_law_manner_here", 7)]) (g := gName 7) hN (blkOk_by (by kernel_rfl)) (fun _ _ _ _ _ => pgn 7 hN) ?_))
    refine lc_draw (c := 0) (B := wo H5 p) (fun R q => (evi_list (evb_wd (evb_v 1 (wdI s6.up)) s6.base.ext).1 s6.base.ext) H5 (Ext.refl _) R fun J H3 e3 y => q J H3 e3 y) (by rw [List.length_map]; omega) gm_name tm_bk s6.base (fun i acc _ => acc = (((wd.rows.take i).filter fun x => decide (x.room ∈ rs) && decide (x.job = job)).map Mnr.other).map V.str) (fun _ => rfl) (fun _ _ _ _ _ h => h) (fun i d v7 H6 B' Dl acc hd eB s7 hv _ _ _ _ ha => ?_) fun Dl acc H6 s7 hDl hDp hD6 _ ha => ?_
    · obtain ⟨x, hx, rfl⟩ := map_get hd
      subst ha
      have tk : wd.rows.take (i + 1) = wd.rows.take i ++ [x] := by
        obtain ⟨h1, h2⟩ := List.getElem?_eq_some_iff.mp hx
        rw [List.take_succ_eq_append_getElem h1, h2]
      have i7 : Is K H6 v7 (.tup [.str x.room, .str x.job, .str x.other, x.eff.d]) := hv
      refine ⟨rfl, fun s H' C cl fp => (EvW.t (evw_and (evt_inSL (ev_ixTc 0 (d := .str x.room) rfl (ev_v 7 i7)) (ev_v 3 (i3b.mono (eB.trans s7.ext)))) fun _ => evw_and1 (evt_eqS (ev_ixTc 1 (d := .str x.job) rfl (ev_v 7 i7)) (ev_v 8 (.str job))))).wt (Ext.refl H6) fun H7 e7 => ?_⟩
      cases hq : decide (x.room ∈ rs) && decide (x.job = job) with
      | true =>
        refine iteT fun s H' C cl fp => (ev_ixTc 2 (d := .str x.other) rfl (ev_v 7 (i7.mono e7))).we (Ext.refl H7) fun v8 H8 e8 i8 => ?_
        cases i8
        refine ⟨(s7.to (e7.trans e8)).mono (by omega), ?_⟩
        rw [tk, List.filter_append, List.filter_cons, if_pos hq, List.map_append, List.map_append]; rfl
      | false =>
        refine iteF ⟨(s7.to e7).mono (by omega), ?_⟩
        rw [tk, List.filter_append, List.filter_cons, if_neg (by rw [hq]; decide)]
        simp
    have hDl' : Dl ≠ l := fun z => by subst z; rw [hDl] at hD; cases hD
    subst ha
    have hD := (s7.ext _ _ (by rw [wo_ne hlp]; exact hD) : H6 l = some (.lst (bs.map V.str)))
    have i9n : ∀ o, Is K (upd H6 l o) (.ref Dl) (.lst (((((wd.rows.take (wd.rows.map Mnr.d).length).filter fun x => decide (x.room ∈ rs) && decide (x.job = job)).map Mnr.other)).map D.str)) := fun o => .lst (by rw [upd_ne hDl']; exact hD6) (isAll_ofStrs _)
    have s6 := (s7.low s6.up).mono (show n + 1 + i + 1 + _ * 0 ≤ n + 1 + i + 1 by omega)
    have e6 := Ext.refl H6
    refine wss_one (ws_append (we_v 4 ⟨l, _, rfl, hD, by rw [List.length_map]; omega, we_v 8 ⟨hD, ?_⟩⟩))
    refine ⟨.ref Dl, _, _, _, _, bs ++ [job], rfl, ((s6.to e6).upd hlB hlp).mono (by omega), i9n _, by rw [upd_same, List.map_append]; rfl, by rw [List.length_append, List.length_singleton]; omega, ?_⟩
    intro s hs
    rcases List.mem_append.mp hs with hs | hs
    · exact hw s hs
    · rw [List.mem_singleton.mp hs]; exact jw _ jm
  · rintro σ' H' ⟨v3, x5, x6, x8, rs, bs, rfl, s3, i3, hD, hlen, hw⟩
    simp only [List.length_map, List.length_range] at hlen s3
    exact wss_one (ws_retW (we_v 4 (k _ H' _ ⟨bs, by omega, hw, rfl⟩ (s3.mono (by omega)) (.lst hD (isAll_ofStrs bs)))))
end
end Wb
/-! The law's own need. -/
namespace Wb
open PySem PySem.Spec L2 PyProof.Rows PySem.W
/-- a room, the greatest stretch so far, the running one -/
structure Ste where
  r : PySem.Str
  w : Nat
  n : Nat
  deriving DecidableEq
def Ste.d (s : Ste) : D := .tup [.str s.r, .int (s.w : Int), .int (s.n : Int)]
def dom (t s : Ste) : Prop := t.r = s.r ∧ t.w ≤ s.w ∧ t.n ≤ s.n
structure LeanOf (l L : List Ste) : Prop where
  sub : ∀ s ∈ L, s ∈ l
  cov : ∀ s ∈ l, ∃ t ∈ L, dom t s
  nd : L.Nodup
theorem perm_map {α β : Type} {f : α → β} {l : List α} {ds : List β} (h : ds.Perm (l.map f)) : ∃ l' : List α, l'.Perm l ∧ ds = l'.map f := by
  generalize hl : l.map f = m at h
  induction h generalizing l with
  | nil => cases l with
    | nil => exact ⟨[], .nil, rfl⟩
    | cons _ _ => cases hl
  | @cons a l1 l2 h ih => cases l with
    | nil => cases hl
    | cons x l =>
      injection hl with h1 h2
      obtain ⟨r', p, e⟩ := ih h2
      exact ⟨x :: r', p.cons x, by rw [e, ← h1]; rfl⟩
  | swap a b l0 => cases l with
    | nil => cases hl
    | cons x l => cases l with
      | nil => cases hl
      | cons y l =>
        injection hl with h1 h2
        injection h2 with h2 h3
        exact ⟨y :: x :: l, List.Perm.swap x y l, by rw [← h1, ← h2, ← h3]; rfl⟩
  | trans h1 h2 ih1 ih2 =>
    obtain ⟨r', p, e⟩ := ih2 hl
    obtain ⟨r2, p2, e2⟩ := ih1 e.symm
    exact ⟨r2, p2.trans p, e2⟩
theorem noLst_ste (s : Ste) : noLst s.d = true := by unfold Ste.d; simp only [noLst, noLsts, Bool.and_self]
theorem plain_ste (s : Ste) : plainD s.d = true := by unfold Ste.d; simp only [plainD, plainDs, Bool.and_self]
theorem py_ste (s : Ste) : py s.d = .tuple [.str s.r, .int (s.w : Int), .int (s.n : Int)] := by unfold Ste.d; simp only [py, pys]
theorem sortOk_ste (l : List Ste) : SortOk (l.map Ste.d) where
  plain := fun d hd => by obtain ⟨x, _, rfl⟩ := List.mem_map.mp hd; exact plain_ste x
  alk := fun d hd e he => by
    obtain ⟨x, _, rfl⟩ := List.mem_map.mp hd
    obtain ⟨y, _, rfl⟩ := List.mem_map.mp he
    rw [py_ste, py_ste]; simp [alike, alikeAll]
  tup := fun d hd => by obtain ⟨x, _, rfl⟩ := List.mem_map.mp hd; rw [py_ste]; exact ⟨_, _, rfl⟩
  deep := fun d hd => by obtain ⟨x, _, rfl⟩ := List.mem_map.mp hd; rw [py_ste]; simp [PyData.depth, PyData.depthAll]
theorem Ext.upd2 {B H : Hp} {p : Addr} {o : HO} (e : Ext B H) : Ext (upd B p o) (upd H p o) := fun a u h => by
  by_cases c : a = p
  · subst c; rw [upd_same] at h ⊢; exact h
  · rw [upd_ne c] at h ⊢; exact e a u h
section
variable {X : Cx}
/-- sorted, the data in B -/
def rSortB (K : PySem.W.Frag) : List V → Hp → VK → Prop := fun vs H Q => ∃ (l : Addr) (ds : List D) (B : Hp), vs = [V.ref l] ∧ Ext B H ∧ Is K B (.ref l) (.lst ds) ∧ SortOk ds ∧ ds.length ≤ 100000 ∧ ∀ ds' vs' p, ds'.Perm ds → IsAll K B vs' ds' → H p = none → Q (.ref p) (upd H p (.lst vs'))
theorem cr_sortB (hu : X.A.units + 64 < cLine) : CallR X (.builtin "sorted") (rSortB X.K) := by
  intro pins s σ H vs us Q I r h
  obtain ⟨l, ds, B, rfl, eB, hl, ok, hn, q⟩ := h
  rw [Vals.ref1 r]
  cases hl with
  | @lst _ vs _ hlB ha =>
    have hl := eB _ _ hlB
    obtain ⟨its, rv, pl, hz⟩ := I.list (.inl (.inl hl))
    have len : vs.length = ds.length := ha.length
    have mem2 : ∀ b ∈ vs.zip ds, b.2 ∈ ds := fun b hb => (List.of_mem_zip (a := b.1) (b := b.2) hb).2
    have ez := each_of ha rv
    refine sorted_data (enc := fun b : V × D => py b.2) pl.isList ez ((each_mem ez).mono fun u b ⟨⟨r1, h1⟩, hb⟩ => Dp.reads I _ b.1 u ((h1.mono eB).dp (ok.plain _ (mem2 b hb))) r1)
      (fun d hd e he => ?_) (.inl fun d hd => ?_) (by rw [List.length_zip, sizeLine_eq]; omega) (fun b hb => ?_) fun out ho eo => ?_
    · obtain ⟨b, hb, rfl⟩ := List.mem_map.mp hd
      obtain ⟨c, hc, rfl⟩ := List.mem_map.mp he
      exact ok.alk _ (mem2 b hb) _ (mem2 c hc)
    · obtain ⟨b, hb, rfl⟩ := List.mem_map.mp hd
      exact ok.tup _ (mem2 b hb)
    · have := ok.deep _ (mem2 b hb)
      omega
    · obtain ⟨v1, v2⟩ := of_each eo
      have pm := List.mergeSort_perm (vs.zip ds) (dataLe false fun b : V × D => py b.2)
      generalize (vs.zip ds).mergeSort (dataLe false fun b : V × D => py b.2) = bs at eo v1 v2 pm
      have p2 : (bs.map (·.2)).Perm ds := by
        have z := pm.map (·.2)
        rw [List.map_snd_zip (Nat.le_of_eq len.symm)] at z
        exact z
      obtain ⟨ep, he'⟩ := PyProof.Rows.sortedAll_at s.heap its out.toArray
      have hlen : (bs.map (·.1)).length ≤ sizeLine := by rw [List.length_map, pm.length_eq, List.length_zip, sizeLine_eq]; omega
      have hn2 : H (s.heap.objs.size + 1) = none := I.hok.fresh (Nat.le_succ _)
      exact ⟨.ref _, upd H (s.heap.objs.size + 1) (.lst (bs.map (·.1))), I.laid (t' := s.toks) (fun _ _ => PyProof.Rows.sortedAll_old) (Nat.le_succ _) ⟨hlen, out.toArray.toList, ep, by simpa using v1, he'⟩, rfl, q _ _ _ p2 v2 hn2⟩
variable {σ : L2.St} {H B : Hp} {e : Expr} {pos p : Pos}
theorem we_sortB {ds : List D} {Q : VK} (hm : X.mg "sorted" = none) (hu : X.A.units + 64 < cLine) (h : EvB X σ H B e (.lst ds)) (eB : Ext B H) (ok : SortOk ds) (hl : ds.length ≤ 100000) (q : ∀ a vs H2 (ds' : List D), Ext H H2 → ds'.Perm ds → IsAll X.K B vs ds' → H2 a = none → Q (.ref a) (upd H2 a (.lst vs))) (hg : Gl X "sorted" := by rfl) (hs : noStar e = true := by rfl) : WE X (.Call (.Name "sorted" p) [e] [] pos) σ H Q :=
  WE.of (pe_callB (cr_sortB hu) hg hm PyProof.Rows.boot_sorted WA.pa (by decide) (by decide) (star_cons hs) rfl) (wa_cons (h H (Ext.refl _) _ fun v H2 e2 hv => wa_nil (by
    have hv2 := hv
    cases hv with
    | @lst a vs _ ha hvs => exact ⟨a, ds, B, rfl, eB.trans e2, hv2, ok, hl, fun ds' vs' p pm ia hp => q _ _ _ ds' e2 pm ia hp⟩)) hs)
end
section
variable {P : Program} {w : World} {K : PySem.W.Frag} {mg : PySem.Str → Option Value} {base : Heap}
def spLean (K : PySem.W.Frag) : Sp := fun vs H Q _ => ∃ (v : V) (l : List Ste), vs = [v] ∧ Is K H v (.lst (l.map Ste.d)) ∧ l.length ≤ 50000 ∧ ∀ v' H' L, Ext H H' → LeanOf l L → Is K H' v' (.lst (L.map Ste.d)) → Q v' H'
abbrev N_law_lean : List PySem.Str := ["_law_states", "_law_found", "_law_state", "_law_other"]
theorem kq_law_lean (T : Top w K mg) : Kp P w K mg base "_law_lean" ["_law_states"] [] 1 (spLean K) := by
  have hN : N_law_lean.Nodup := by decide +kernel
  refine kp_of (N := N_law_lean) T 73 rfl ⟨rfl, rfl, rfl, hN, rfl, by decide +kernel, by decide +kernel⟩ (fun _ _ _ _ _ _ us hl => match us, hl with | [_], _ => rfl) (fun vs H Q E ⟨v, l, h, _⟩ => by rw [h]; rfl) ?_
  rintro cdv A outer s H vs Q E hr ⟨v, l, rfl, hv, hl, k⟩
  refine wss_cons (ws_setW hN (i := 1) (we_lst (wa_nil ⟨by decide, fun f hf => ?_⟩)))
  have eH : Ext H (upd H f (.lst [])) := Ext.new hf
  have hD : upd H f (.lst []) f = some (.lst []) := upd_same
  show WSs (Cd P w K mg base N_law_lean "_law_lean" s_law_lean cdv A outer s H E) _ _ _ (upd H f (.lst []))
  generalize upd H f (.lst []) = H1 at eH hD ⊢
  refine wss_cons (ws_forJ PassesOwn.never (WI.of (pi_list WE.pe) (we_sortB T.f_sorted hr.units (evb_v 0 hv) eH (sortOk_ste l) (by rw [List.length_map]; omega) fun a vs H2 ds' e2 pm ia ha => ?_)) (pgn 2 hN))
  obtain ⟨l', pl, rfl⟩ := perm_map pm
  have hBa : H a = none := (eH.trans e2).back ha
  have hB' : Ext H (upd H a (.lst vs)) := Ext.new hBa
  have eB' : Ext (upd H a (.lst vs)) (upd H2 a (.lst vs)) := (eH.trans e2).upd2
  have iB : Is K (upd H a (.lst vs)) (.ref a) (.lst (l'.map Ste.d)) := .lst upd_same (ia.mono hB')
  have hD2 := e2 _ _ hD
  have hfa : f ≠ a := fun z => by subst z; rw [hD2] at ha; cases ha
  have hBf : upd H a (.lst vs) f = none := by rw [upd_ne hfa]; exact hf
  have hD3 : upd H2 a (.lst vs) f = some (.lst []) := by rw [upd_ne hfa]; exact hD2
  generalize upd H a (.lst vs) = B at hB' eB' iB hBf
  generalize upd H2 a (.lst vs) = H3 at eB' hD3
  have ex : ∃ xs, SqL K H3 a xs := by cases (iB.mono eB') with | @lst _ xs _ h _ => exact ⟨xs, .of h⟩
  refine ⟨a, rfl, ex, l'.map Ste.d, B, fun i σ' H' => ∃ (x2 : Option V) (L : List Ste), σ' = [some v, some (.ref f), x2, none] ∧ Ext B H' ∧ Is K H' (.ref f) (.lst (L.map Ste.d)) ∧ L.length ≤ i ∧ LeanOf (l'.take i) L, ylb_list iB, fun i σ' H' ⟨_, _, _, h, _⟩ => h, ⟨none, [], rfl, eB', .lst hD3 .nil, Nat.le_refl _, ⟨by simp, by simp, .nil⟩⟩, ?_, ?_⟩
  · rintro i d σ' H' v2 hd ⟨x2, L, rfl, eB, iL, ln, lo⟩ hv2
    obtain ⟨t, ht, rfl⟩ := map_get hd
    have hi : i < l'.length := (List.getElem?_eq_some_iff.mp ht).1
    have ll := pl.length_eq
    have tk : l'.take (i + 1) = l'.take i ++ [t] := by
      obtain ⟨h1, h2⟩ := List.getElem?_eq_some_iff.mp ht
      rw [List.take_succ_eq_append_getElem h1, h2]
    have hv2' : Is K B v2 (.tup [.str t.r, .int (t.w : Int), .int (t.n : Int)]) := hv2
    refine wss_one (ws_if (c := !(L.any fun u => decide (u.r = t.r) && (decide ((u.w : Int) ≤ t.w) && decide ((u.n : Int) ≤ t.n)))) (evt_not (evt_val (Ev.is (ev_anyB (bs := L.map fun u => decide (u.r = t.r) && (decide ((u.w : Int) ≤ t.w) && decide ((u.n : Int) ≤ t.n))) rfl T.f_any (Ev.is (ev_lcN (l := L) (E := Ste.d) (own := [("_law_other", 3)]) (g := gName 3) (fun u => .bl (decide (u.r = t.r) && (decide ((u.w : Int) ≤ t.w) && decide ((u.n : Int) ≤ t.n)))) rfl hN (blkOk_by (by kernel_rfl)) (EvIB.i (evi_list (evb_v 1 iL) (Ext.refl _)) (Ext.refl _)) (by omega) (fun _ _ _ _ _ => pgn 3 hN) gm_name ?_ (fun _ _ => noLst_bl _)) (by rw [List.map_map]; rfl))) (by rw [List.any_map]; rfl)))) (fun q H4 e4 => ?_) (fun q H4 e4 => wss_nil ?_))
    · intro u hu v3 H4 e4 i3
      have i3 : Is K H4 v3 (.tup [.str u.r, .int (u.w : Int), .int (u.n : Int)]) := i3
      have h2' := hv2'.mono (eB.trans e4)
      exact ⟨rfl, rfl, fun _ _ _ _ _ => ev_and (ev_eqS (ev_ixTc 0 (d := .str u.r) rfl (ev_v 3 i3)) (ev_ixTc 0 (d := .str t.r) rfl (ev_v 2 h2'))) fun _ => ev_and (ev_le (ev_ixTc 1 (d := .int (u.w : Int)) rfl (ev_v 3 i3)) (ev_ixTc 1 (d := .int (t.w : Int)) rfl (ev_v 2 h2'))) fun _ => ev_one (ev_le (ev_ixTc 2 (d := .int (u.n : Int)) rfl (ev_v 3 i3)) (ev_ixTc 2 (d := .int (t.n : Int)) rfl (ev_v 2 h2')))⟩
    · have q : ∀ u ∈ L, ¬ dom u t := fun u hu ⟨d1, d2, d3⟩ => by
        have h : (L.any fun u => decide (u.r = t.r) && (decide ((u.w : Int) ≤ t.w) && decide ((u.n : Int) ≤ t.n))) = true := List.any_eq_true.mpr ⟨u, hu, by rw [decide_eq_true d1, decide_eq_true (by omega), decide_eq_true (by omega)]; rfl⟩
        rw [h] at q; cases q
      have iL4 := iL.mono e4
      have i2 := hv2.mono (eB.trans e4)
      refine wss_one (ws_append (we_v 1 ?_))
      cases iL4 with
      | @lst _ xs _ h4 ha4 =>
        have lxs := ha4.length
        rw [List.length_map] at lxs
        refine ⟨f, xs, rfl, h4, by omega, we_v 2 ⟨h4, some v2, L ++ [t], rfl, (eB.trans e4).mut hBf, ?_, by rw [List.length_append, List.length_singleton]; omega, ?_, ?_, ?_⟩⟩
        · have kp : ExtN H4 (upd H4 f (.lst (xs ++ [v2]))) := (Ext.refl H4).n.upd h4
          refine .lst upd_same ?_
          rw [List.map_append]
          exact (ha4.keep kp (noLsts_all fun d hd => by obtain ⟨y, _, rfl⟩ := List.mem_map.mp hd; exact noLst_ste y)).append (.cons (i2.keep kp (noLst_ste t)) .nil)
        · intro s hs
          rw [tk]
          rcases List.mem_append.mp hs with hs | hs
          · exact List.mem_append_left _ (lo.sub s hs)
          · rw [List.mem_singleton.mp hs]; simp
        · intro s hs
          rw [tk] at hs
          rcases List.mem_append.mp hs with hs | hs
          · obtain ⟨u, hu, du⟩ := lo.cov s hs
            exact ⟨u, List.mem_append_left _ hu, du⟩
          · rw [List.mem_singleton.mp hs]; exact ⟨t, by simp, rfl, Nat.le_refl _, Nat.le_refl _⟩
        · rw [List.nodup_append]
          refine ⟨lo.nd, by simp, fun a ha b hb z => ?_⟩
          rw [List.mem_singleton.mp hb] at z
          subst z
          exact q a ha ⟨rfl, Nat.le_refl _, Nat.le_refl _⟩
    · have q : ∃ u ∈ L, dom u t := by
        have q : (L.any fun u => decide (u.r = t.r) && (decide ((u.w : Int) ≤ t.w) && decide ((u.n : Int) ≤ t.n))) = true := by simpa using q
        obtain ⟨u, hu, h⟩ := List.any_eq_true.mp q
        obtain ⟨h1, h2⟩ := Bool.and_eq_true_iff.mp h
        obtain ⟨h2, h3⟩ := Bool.and_eq_true_iff.mp h2
        have h2 := of_decide_eq_true h2
        have h3 := of_decide_eq_true h3
        exact ⟨u, hu, of_decide_eq_true h1, by omega, by omega⟩
      refine ⟨some v2, L, rfl, eB.trans e4, iL.mono e4, by omega, ⟨fun s hs => by rw [tk]; exact List.mem_append_left _ (lo.sub s hs), fun s hs => ?_, lo.nd⟩⟩
      rw [tk] at hs
      rcases List.mem_append.mp hs with hs | hs
      · exact lo.cov s hs
      · rw [List.mem_singleton.mp hs]; exact q
  · rintro σ' H' ⟨x2, L, rfl, eB, iL, ln, lo⟩
    rw [List.length_map, List.take_length] at lo
    exact wss_one (ws_retW (we_v 1 (k _ H' L (hB'.trans eB) ⟨fun s hs => pl.mem_iff.mp (lo.sub s hs), fun s hs => lo.cov s (pl.mem_iff.mpr hs), lo.nd⟩ iL)))
end
end Wb
/-! The law's own steps, need. -/
namespace Wb
open PySem PySem.Spec L2
def mvS (s : Ste) (x : Mnr) : Ste := ⟨x.other, (stp (s.w, s.n) x.eff).1, (stp (s.w, s.n) x.eff).2⟩
def stepS (rows : List Mnr) (job : Str) (s : Ste) : List Ste := (rows.filter fun x => decide (x.room = s.r) && decide (x.job = job)).map (mvS s)
theorem nodup_leG {α : Type} [DecidableEq α] : ∀ {l r : List α}, l.Nodup → (∀ x ∈ l, x ∈ r) → l.length ≤ r.length
  | [], _, _, _ => Nat.zero_le _
  | x :: l, r, h, hs => by
    obtain ⟨h1, h2⟩ := List.nodup_cons.mp h
    have h3 := nodup_leG (r := r.erase x) h2 fun y hy => (List.mem_erase_of_ne (fun e => h1 (by rw [← e]; exact hy))).mpr (hs y (.tail _ hy))
    have h4 := List.length_erase_of_mem (hs x (.head _))
    have h5 : 0 < r.length := List.length_pos_of_mem (hs x (.head _))
    rw [List.length_cons]
    omega
/-- states that stand for all that can be -/
structure InvS (wd : Wd) (b : List Str) (L : List Ste) : Prop where
  ok : ∀ s ∈ L, Rc wd.rows wd.firsts b s.r (s.w, s.n)
  all : ∀ r s, Rc wd.rows wd.firsts b r s → ∃ t ∈ L, t.r = r ∧ t.w ≤ s.1 ∧ t.n ≤ s.2
  few : L.length ≤ 4800
theorem Rc.room {wd : Wd} (wf : WfW wd) {b : List Str} {r : Str} {s : Nat × Nat} (h : Rc wd.rows wd.firsts b r s) : r ∈ wd.rooms := by
  cases h with
  | nil h => exact wf.firsts.subset h
  | snoc _ hx => exact (wf.rows.within _ hx).2.2.1
theorem stp_mono {w n w' n' : Nat} (h : w ≤ w') (h2 : n ≤ n') (e : Eff) : (stp (w, n) e).1 ≤ (stp (w', n') e).1 ∧ (stp (w, n) e).2 ≤ (stp (w', n') e).2 := by
  cases e with
  | coins a => show w ≤ w' ∧ n + a ≤ n' + a; omega
  | fill a b => show max w (n + a) ≤ max w' (n' + a) ∧ b ≤ b; omega
theorem flat_small {α : Type} (l : List α) (f : α → List Ste) (c : Nat) (h : ∀ a ∈ l, (f a).length ≤ c) : (l.flatMap f).length ≤ l.length * c := by
  induction l with
  | nil => simp
  | cons a l ih =>
    rw [List.flatMap_cons, List.length_append, List.length_cons, Nat.succ_mul]
    have := h a (.head _)
    have := ih fun b hb => h b (.tail _ hb)
    omega
theorem inv_few {wd : Wd} (wf : WfW wd) {b : List Str} {L : List Ste} (hb : b.length ≤ 12) (nd : L.Nodup) (ok : ∀ s ∈ L, Rc wd.rows wd.firsts b s.r (s.w, s.n)) : L.length ≤ 4800 := by
  have e1 : ∀ n : Nat, ((List.range 37).map fun k => n).length = 37 := fun n => by simp
  have big := nodup_leG (r := wd.rooms.flatMap fun r => (List.range 37).flatMap fun i => (List.range 37).map fun j => (⟨r, i, j⟩ : Ste)) nd fun s hs => by
    have h := ok s hs
    obtain ⟨h1, h2⟩ := h.le fun x hx => (wf.rows.within x hx).2.2.2
    have h1 : s.w ≤ 3 * b.length := h1
    have h2 : s.n ≤ 3 * b.length := h2
    exact List.mem_flatMap.mpr ⟨s.r, h.room wf, List.mem_flatMap.mpr ⟨s.w, List.mem_range.mpr (by omega), List.mem_map.mpr ⟨s.n, List.mem_range.mpr (by omega), rfl⟩⟩⟩
  have r3 := wf.rj.r3
  have inner : ∀ r : Str, ((List.range 37).flatMap fun i => (List.range 37).map fun j => (⟨r, i, j⟩ : Ste)).length ≤ 1369 := fun r =>
    Nat.le_trans (flat_small _ _ 37 fun a _ => by simp) (by simp)
  have := flat_small wd.rooms (fun r => (List.range 37).flatMap fun i => (List.range 37).map fun j => (⟨r, i, j⟩ : Ste)) 1369 fun a _ => inner a
  omega
theorem inv_step {wd : Wd} (wf : WfW wd) {b : List Str} {job : Str} {L L' : List Ste} (hb : (b ++ [job]).length ≤ 12) (i : InvS wd b L) (h : LeanOf (L.flatMap (stepS wd.rows job)) L') : InvS wd (b ++ [job]) L' := by
  have ok : ∀ s ∈ L', Rc wd.rows wd.firsts (b ++ [job]) s.r (s.w, s.n) := fun s hs => by
    obtain ⟨t, ht, hs⟩ := List.mem_flatMap.mp (h.sub s hs)
    obtain ⟨x, hx, rfl⟩ := List.mem_map.mp hs
    obtain ⟨x1, x2⟩ := List.mem_filter.mp hx
    obtain ⟨x3, x4⟩ := Bool.and_eq_true_iff.mp x2
    have rc := i.ok t ht
    rw [← of_decide_eq_true x3] at rc
    have := Rc.snoc rc x1
    rw [of_decide_eq_true x4] at this
    exact this
  refine ⟨ok, fun r s hs => ?_, inv_few wf hb h.nd ok⟩
  obtain ⟨x, s0, hx, rfl, rfl, h0, rfl⟩ := hs.inv
  obtain ⟨t, ht, t1, t2, t3⟩ := i.all _ _ h0
  have hm : mvS t x ∈ L.flatMap (stepS wd.rows x.job) := List.mem_flatMap.mpr ⟨t, ht, List.mem_map.mpr ⟨x, List.mem_filter.mpr ⟨hx, by rw [decide_eq_true t1.symm, decide_eq_true rfl]; rfl⟩, rfl⟩⟩
  obtain ⟨u, hu, d1, d2, d3⟩ := h.cov _ hm
  obtain ⟨m1, m2⟩ := stp_mono t2 t3 x.eff
  exact ⟨u, hu, d1, Nat.le_trans d2 m1, Nat.le_trans d3 m2⟩
theorem inv_start {wd : Wd} (wf : WfW wd) : InvS wd [] (wd.firsts.map fun r => ⟨r, 0, 0⟩) := by
  refine ⟨fun s hs => ?_, fun r s hs => ?_, ?_⟩
  · obtain ⟨f, hf, rfl⟩ := List.mem_map.mp hs
    exact .nil hf
  · generalize hb : ([] : List Str) = b at hs
    cases hs with
    | nil hf => exact ⟨_, List.mem_map.mpr ⟨_, hf, rfl⟩, rfl, Nat.le_refl _, Nat.le_refl _⟩
    | snoc _ _ => exact absurd hb.symm (by simp)
  · rw [List.length_map]
    have := wf.firsts.length_le
    have := wf.rj.r3
    omega
section
variable {P : Program} {w : World} {K : PySem.W.Frag} {mg : Str → Option Value} {base : Heap}
def spSteps (K : PySem.W.Frag) : Sp := fun vs H Q _ => ∃ (v0 v1 : V) (wd : Wd) (l : List Ste) (job : Str), vs = [v0, v1, .str job] ∧ Is K H v0 wd.d ∧ WfW wd ∧ Is K H v1 (.lst (l.map Ste.d)) ∧ l.length ≤ 4800 ∧ ∀ v' H' L, Ext H H' → LeanOf (l.flatMap (stepS wd.rows job)) L → Is K H' v' (.lst (L.map Ste.d)) → Q v' H'
abbrev N_law_steps : List Str := ["_law_world_here", "_law_states", "_law_job", "_law_found", "_law_room", "_law_worst", "_law_now", "_law_manner_here", "_law_effect_here", "_law_state"]
theorem kq_law_steps (T : Top w K mg) : Kp P w K mg base "_law_steps" ["_law_world_here", "_law_states", "_law_job"] [] 2 (spSteps K) := by
  have hN : N_law_steps.Nodup := by decide +kernel
  refine kp_of (N := N_law_steps) T 74 rfl ⟨rfl, rfl, rfl, hN, rfl, by decide +kernel, by decide +kernel⟩ (fun _ _ _ _ _ _ us hl => match us, hl with | [_, _, _], _ => rfl) (fun vs H Q E ⟨_, _, _, _, _, h, _⟩ => by rw [h]; rfl) ?_
  rintro cdv A outer s H vs Q E hr ⟨v0, v1, wd, l, job, rfl, h0, wf, h1, hl, k⟩
  have few := wf.rows.few
  refine wss_cons (ws_setW hN (i := 3) (we_lst (wa_nil ⟨by decide, fun f hf => ?_⟩)))
  have eH : Ext H (upd H f (.lst [])) := Ext.new hf
  have hD : upd H f (.lst []) f = some (.lst []) := upd_same
  show WSs (Cd P w K mg base N_law_steps "_law_steps" s_law_steps cdv A outer s H E) _ _ _ (upd H f (.lst []))
  generalize upd H f (.lst []) = H1 at eH hD ⊢
  have flen : ∀ s, (stepS wd.rows job s).length ≤ 9 := fun s => by unfold stepS; rw [List.length_map]; exact Nat.le_trans (List.length_filter_le _ _) few
  refine wss_cons (ws_forS PassesOwn.never rfl (B := H) (evs_list (evb_v 1 h1) eH) (pg3 4 5 6 rfl hN) (fun i σ' H' => ∃ (x4 x5 x6 x7 x8 x9 : Option V), σ' = [some v0, some v1, some (.str job), some (.ref f), x4, x5, x6, x7, x8, x9] ∧ Ext H H' ∧ Is K H' (.ref f) (.lst (((l.take i).flatMap (stepS wd.rows job)).map Ste.d))) (fun i σ' H' ⟨_, _, _, _, _, _, _, h, _⟩ => h)
    (fun H2 e2 => ⟨none, none, none, none, none, none, rfl, eH.trans e2, .lst (e2 _ _ hD) .nil⟩) ?_ ?_)
  · rintro i d σ' H' v hd ⟨x4, x5, x6, x7, x8, x9, rfl, eB, iF⟩ hv
    obtain ⟨t, ht, rfl⟩ := map_get hd
    have hi : i < l.length := (List.getElem?_eq_some_iff.mp ht).1
    have tk : l.take (i + 1) = l.take i ++ [t] := by
      obtain ⟨h1, h2⟩ := List.getElem?_eq_some_iff.mp ht
      rw [List.take_succ_eq_append_getElem h1, h2]
    refine gTup3B (show Is K H v (.tup [.str t.r, .int (t.w : Int), .int (t.n : Int)]) from hv) eB fun u1 u2 u3 k1 k2 k3 => ?_
    cases k1; cases k2; cases k3
    refine wss_one (ws_forS PassesOwn.never rfl (B := H) (evs_list (evb_wd (evb_v 0 h0) eB).1 eB) (pgn 7 hN) (fun j σ' H' => ∃ (x7 x8 x9 : Option V), σ' = [some v0, some v1, some (.str job), some (.ref f), some (.str t.r), some (.int (t.w : Int)), some (.int (t.n : Int)), x7, x8, x9] ∧ Ext H H' ∧ Is K H' (.ref f) (.lst (((l.take i).flatMap (stepS wd.rows job) ++ stepS (wd.rows.take j) job t).map Ste.d))) (fun i σ' H' ⟨_, _, _, _, h, _⟩ => h)
      (fun H2 e2 => ⟨x7, x8, x9, rfl, eB.trans e2, by
        have e : (l.take i).flatMap (stepS wd.rows job) ++ stepS (wd.rows.take 0) job t = (l.take i).flatMap (stepS wd.rows job) := by simp [stepS]
        rw [e]; exact iF.mono e2⟩) ?_ ?_)
    · rintro j d σ' H' v7 hd ⟨x7, x8, x9, rfl, eB, iF⟩ hv7
      obtain ⟨x, hx, rfl⟩ := map_get hd
      have hj : j < wd.rows.length := (List.getElem?_eq_some_iff.mp hx).1
      have tkr : wd.rows.take (j + 1) = wd.rows.take j ++ [x] := by
        obtain ⟨h1, h2⟩ := List.getElem?_eq_some_iff.mp hx
        rw [List.take_succ_eq_append_getElem h1, h2]
      have h7 : Is K H v7 (.tup [.str x.room, .str x.job, .str x.other, x.eff.d]) := hv7
      have h7' := h7.mono eB
      have snoc : ∀ q : Bool, (decide (x.room = t.r) && decide (x.job = job)) = q → stepS (wd.rows.take (j + 1)) job t = stepS (wd.rows.take j) job t ++ (if q = true then [mvS t x] else []) := fun q hq => by
        unfold stepS
        rw [tkr, List.filter_append, List.map_append]
        cases q with
        | true => rw [List.filter_cons, if_pos hq]; rfl
        | false => rw [List.filter_cons, if_neg (by rw [hq]; decide)]; rfl
      refine wss_one (ws_if (c := decide (x.room = t.r) && decide (x.job = job)) (EvW.t (evw_and (evt_eqS (ev_ixTc 0 (d := .str x.room) rfl (ev_v 7 h7')) (ev_v 4 (.str t.r))) fun _ => evw_and1 (evt_eqS (ev_ixTc 1 (d := .str x.job) rfl (ev_v 7 h7')) (ev_v 2 (.str job))))) (fun q H2 e2 => ?_) (fun q H2 e2 => wss_nil ⟨_, x8, x9, rfl, eB.trans e2, by rw [snoc false q]; simpa using iF.mono e2⟩))
      have eB2 := eB.trans e2
      have iF := iF.mono e2
      refine wss_cons (ws_set hN (i := 8) (ev_ixTc 3 (d := x.eff.d) rfl (ev_v 7 (h7.mono eB2))) fun v8 H3 e3 h8 => ?_)
      have eB3 := eB2.trans e3
      have iF := iF.mono e3
      -- the state behind the manner
      refine wss_mid (fun σ' H' => ∃ (v8 v9 : V), σ' = [some v0, some v1, some (.str job), some (.ref f), some (.str t.r), some (.int (t.w : Int)), some (.int (t.n : Int)), some v7, some v8, some v9] ∧ Ext H3 H' ∧ Is K H' v8 x.eff.d ∧ (match x.eff with | .coins _ => Is K H' v9 (mvS t x).d | .fill _ _ => True)) ?_ ?_
      · refine (show ∀ e, x.eff = e → _ from fun e he => ?_) x.eff rfl
        rw [he] at h8 ⊢
        cases e with
        | coins a =>
          have h8 : Is K H3 v8 (.tup [.str "coins", .int (a : Int)]) := h8
          refine ws_set hN (i := 9) (ev_tup (eva_cons (ev_ixTc 2 (d := .str x.other) rfl (ev_v 7 (h7.mono eB3))) (eva_cons (ev_v 5 (.int (t.w : Int))) (eva_cons (ev_add (ev_v 6 (.int (t.n : Int))) (ev_ixTc 1 (d := .int (a : Int)) rfl (ev_v 8 h8))) eva_nil))) (by show 3 ≤ 100000; decide)) fun v9 H4 e4 h9 => ⟨v8, v9, rfl, e4, h8.mono e4, ?_⟩
          show Is K H4 v9 (mvS t x).d
          unfold mvS Ste.d
          rw [he]
          exact h9
        | fill a b =>
          have h8 : Is K H3 v8 (.tup [.str "fill", .int (a : Int), .int (b : Int)]) := h8
          exact ws_set hN (i := 9) (ev_tup (eva_cons (ev_ixTc 2 (d := .str x.other) rfl (ev_v 7 (h7.mono eB3))) (eva_cons (ev_v 5 (.int (t.w : Int))) (eva_cons (ev_add (ev_v 6 (.int (t.n : Int))) (ev_ixTc 1 (d := .int (a : Int)) rfl (ev_v 8 h8))) eva_nil))) (by show 3 ≤ 100000; decide)) fun v9 H4 e4 h9 => ⟨v8, v9, rfl, e4, h8.mono e4, trivial⟩
      rintro _ H4 ⟨v8, v9, rfl, e4, h8, h9⟩
      have eB4 := eB3.trans e4
      have iF := iF.mono e4
      refine wss_mid (fun σ' H' => ∃ (v8 v9 : V), σ' = [some v0, some v1, some (.str job), some (.ref f), some (.str t.r), some (.int (t.w : Int)), some (.int (t.n : Int)), some v7, some v8, some v9] ∧ Ext H4 H' ∧ Is K H' v9 (mvS t x).d) ?_ ?_
      · refine (show ∀ e, x.eff = e → _ from fun e he => ?_) x.eff rfl
        rw [he] at h8 h9
        cases e with
        | coins a =>
          have h8 : Is K H4 v8 (.tup [.str "coins", .int (a : Int)]) := h8
          exact ws_skip (EvT.is (evt_eqS (ev_ixTc 0 (d := .str "coins") rfl (ev_v 8 h8)) ev_str) (by decide +kernel)) fun H5 e5 => ⟨v8, v9, rfl, e5, h9.mono e5⟩
        | fill a b =>
          have h8 : Is K H4 v8 (.tup [.str "fill", .int (a : Int), .int (b : Int)]) := h8
          refine ws_if (c := true) (EvT.is (evt_eqS (ev_ixTc 0 (d := .str "fill") rfl (ev_v 8 h8)) ev_str) (decide_eq_true rfl)) (fun _ H5 e5 => ?_) fun z => by cases z
          have h8 := h8.mono e5
          refine wss_one (ws_set hN (i := 9) (ev_tup (eva_cons (ev_ixTc 2 (d := .str x.other) rfl (ev_v 7 (h7.mono (eB4.trans e5)))) (eva_cons (Ev.is (ev_max2 rfl T.f_max (ev_v 5 (.int (t.w : Int))) (ev_add (ev_v 6 (.int (t.n : Int))) (ev_ixTc 1 (d := .int (a : Int)) rfl (ev_v 8 h8)))) (show _ = D.int ((max t.w (t.n + a) : Nat) : Int) by congr 1; split <;> omega)) (eva_cons (ev_ixTc 2 (d := .int (b : Int)) rfl (ev_v 8 h8)) eva_nil))) (by show 3 ≤ 100000; decide)) fun v9 H6 e6 h9 => ⟨v8, v9, rfl, e5.trans e6, ?_⟩)
          unfold mvS Ste.d
          rw [he]
          exact h9
      rintro _ H5 ⟨v8, v9, rfl, e5, h9⟩
      have eB5 := eB4.trans e5
      have iF := iF.mono e5
      refine wss_one (ws_append (we_v 3 ?_))
      have hz : ((l.take i).flatMap (stepS wd.rows job) ++ stepS (wd.rows.take j) job t).length ≤ 50000 := by
        rw [List.length_append]
        have z1 := flat_small (l.take i) (stepS wd.rows job) 9 fun a _ => flen a
        have z2 : (l.take i).length ≤ 4800 := by rw [List.length_take]; omega
        have z3 : (stepS (wd.rows.take j) job t).length ≤ 9 := by unfold stepS; rw [List.length_map]; exact Nat.le_trans (List.length_filter_le _ _) (by rw [List.length_take]; omega)
        omega
      cases iF with
      | @lst _ xs _ h5 ha5 =>
        have lxs := ha5.length
        rw [List.length_map] at lxs
        refine ⟨f, xs, rfl, h5, by omega, we_v 9 ⟨h5, some v7, some v8, some v9, rfl, eB5.mut hf, ?_⟩⟩
        have kp : ExtN H5 (upd H5 f (.lst (xs ++ [v9]))) := (Ext.refl H5).n.upd h5
        refine .lst upd_same ?_
        rw [snoc true q, if_pos rfl, ← List.append_assoc, List.map_append]
        exact (ha5.keep kp (noLsts_all fun d hd => by obtain ⟨y, _, rfl⟩ := List.mem_map.mp hd; exact noLst_ste y)).append (.cons (h9.keep kp (noLst_ste _)) .nil)
    · rintro σ' H' ⟨x7, x8, x9, rfl, eB, iF⟩
      rw [List.length_map, List.take_length] at iF
      refine ⟨_, _, _, x7, x8, x9, rfl, eB, ?_⟩
      rw [tk, List.flatMap_append, List.flatMap_singleton]
      exact iF
  · rintro σ' H' ⟨x4, x5, x6, x7, x8, x9, rfl, eB, iF⟩
    rw [List.length_map, List.take_length] at iF
    have hz : (l.flatMap (stepS wd.rows job)).length ≤ 50000 := Nat.le_trans (flat_small l (stepS wd.rows job) 9 fun a _ => flen a) (by omega)
    exact wss_one (ws_retW (we_call (kq_law_lean T) hr (wa_cons (we_v 3 (wa_nil ⟨_, _, rfl, iF, hz, fun v' H2 L e2 lo i2 => k v' H2 L (eB.trans e2) lo i2⟩)))))
end
end Wb
/-! The law's own need. -/
namespace Wb
open PySem PySem.Spec L2
theorem off_ste (s : Ste) : offI s.d = true := by unfold Ste.d; simp [offI, offIs]
section
variable {X : Cx} {a : Expr} {σ : L2.St} {H : Hp} {pos p : Pos}
theorem ev_minI {is : List Int} {m : Int} (hc : X.calm = true) (hm0 : X.mg "min" = none) (h0 : 0 < is.length) (hm : ∀ k, k ∈ is → (∀ y, y ∈ is → k ≤ y) → k = m) (h : Ev X σ H a (.lst (is.map .int))) (hg : Gl X "min" := by rfl) (hs : noStar a = true := by rfl) : Ev X σ H (.Call (.Name "min" p) [a] [] pos) (.int m) :=
  ev_callB (cr_min hc) (rc_min h0 hm) hm0 PyProof.Rows.boot_min (eva_cons h eva_nil hs) hg (by rw [List.all_cons, hs]; rfl)
theorem plain_ints (l : List Int) : plainD (.lst (l.map D.int)) = true := by rw [plainD]; exact plain_map fun _ _ => rfl
theorem shaped_ints (l : List Int) : SeqAt.shaped (py (.lst (l.map D.int))) = true := by
  rw [py, pys_map]
  exact (Shp.lst (k := 0) fun d hd => by obtain ⟨x, hx, rfl⟩ := List.mem_map.mp hd; exact Shp.int).ok (by decide)
end
theorem min_int : ∀ {l : List Int}, l ≠ [] → ∃ m, m ∈ l ∧ ∀ y ∈ l, m ≤ y
  | [a], _ => ⟨a, by simp, by simp⟩
  | a :: b :: l, _ => by
    obtain ⟨m, h1, h2⟩ := min_int (l := b :: l) (by simp)
    by_cases c : a ≤ m
    · refine ⟨a, by simp, fun y hy => ?_⟩
      rcases List.mem_cons.mp hy with rfl | hy
      · exact Int.le_refl _
      · exact Int.le_trans c (h2 y hy)
    · refine ⟨m, .tail _ h1, fun y hy => ?_⟩
      rcases List.mem_cons.mp hy with rfl | hy
      · omega
      · exact h2 y hy
theorem inv_min {wd : Wd} {b : List Str} {L : List Ste} (i : InvS wd b L) : ∀ {o : Option Int}, (match o with
    | none => (L.filter fun s => decide (s.r ∈ wd.lasts)) = []
    | some m => m ∈ (L.filter fun s => decide (s.r ∈ wd.lasts)).map (fun s => ((max s.w s.n : Nat) : Int)) ∧ ∀ y ∈ (L.filter fun s => decide (s.r ∈ wd.lasts)).map (fun s => ((max s.w s.n : Nat) : Int)), m ≤ y) → MinNeed wd.rows wd.firsts wd.lasts b o
  | none, h => fun l hl s hs => by
    obtain ⟨t, ht, t1, _⟩ := i.all l s hs
    have : t ∈ L.filter fun s => decide (s.r ∈ wd.lasts) := List.mem_filter.mpr ⟨ht, decide_eq_true (by rw [t1]; exact hl)⟩
    rw [show (L.filter fun s => decide (s.r ∈ wd.lasts)) = [] from h] at this
    cases this
  | some m, ⟨h1, h2⟩ => by
    obtain ⟨t, ht, e⟩ := List.mem_map.mp h1
    obtain ⟨t1, t2⟩ := List.mem_filter.mp ht
    refine ⟨⟨t.r, of_decide_eq_true t2, _, i.ok t t1, e⟩, fun l hl s hs => ?_⟩
    obtain ⟨u, hu, u1, u2, u3⟩ := i.all l s hs
    have := h2 _ (List.mem_map.mpr ⟨u, List.mem_filter.mpr ⟨hu, decide_eq_true (by rw [u1]; exact hl)⟩, rfl⟩)
    unfold nds
    omega
section
variable {P : Program} {w : World} {K : PySem.W.Frag} {mg : Str → Option Value} {base : Heap}
def spNeed (K : PySem.W.Frag) : Sp := fun vs H Q _ => ∃ (v0 v1 : V) (wd : Wd) (b : List Str), vs = [v0, v1] ∧ Is K H v0 wd.d ∧ WfW wd ∧ Is K H v1 (bookD b) ∧ b.length ≤ 12 ∧ ∀ v' H' o, Ext H H' → MinNeed wd.rows wd.firsts wd.lasts b o → Is K H' v' (optD o) → Q v' H'
abbrev N_law_need : List Str := ["_law_world_here", "_law_book", "_law_states", "_law_room", "_law_job", "_law_needs", "_law_worst", "_law_now"]
theorem kq_law_need (T : Top w K mg) : Kp P w K mg base "_law_need" ["_law_world_here", "_law_book"] [] 3 (spNeed K) := by
  have hN : N_law_need.Nodup := by decide +kernel
  refine kp_of (N := N_law_need) T 75 rfl ⟨rfl, rfl, rfl, hN, rfl, by decide +kernel, by decide +kernel⟩ (fun _ _ _ _ _ _ us hl => match us, hl with | [_, _], _ => rfl) (fun vs H Q E ⟨_, _, _, _, h, _⟩ => by rw [h]; rfl) ?_
  rintro cdv A outer s H vs Q E hr ⟨v0, v1, wd, b, rfl, h0, wf, h1, hb, k⟩
  have lF := wf.firsts.length_le
  have r3 := wf.rj.r3
  refine wss_mid (fun σ' H' => ∃ v2 : V, σ' = [some v0, some v1, some v2, none, none, none, none, none] ∧ Ext H H' ∧ Is K H' v2 (.lst ((wd.firsts.map fun r => (⟨r, 0, 0⟩ : Ste)).map Ste.d))) (ws_lcN (l := wd.firsts) (E := D.str) (own := [("_law_room", 3)]) (g := gName 3) 2 (fun r => Ste.d ⟨r, 0, 0⟩) hN (blkOk_by (by kernel_rfl)) (EvIB.i (evi_list (evb_wd (evb_v 0 h0) (Ext.refl _)).2.1 (Ext.refl _)) (Ext.refl _)) (by omega) (fun _ _ _ _ _ => pgn 3 hN) gm_name (fun r hr v3 H2 e2 i3 => ⟨rfl, rfl, fun _ _ _ _ _ => ev_tup (eva_cons (ev_v 3 i3) (eva_cons ev_int (eva_cons ev_int eva_nil))) (by show 3 ≤ 100000; decide)⟩) (fun _ _ => noLst_ste _) fun v H1 e1 i1 => ⟨v, rfl, e1, by rw [List.map_map]; exact i1⟩) ?_
  rintro _ H1 ⟨v2, rfl, e1, i2⟩
  refine wss_mid (fun σ' H' => ∃ (v2 : V) (x4 : Option V) (L : List Ste), σ' = [some v0, some v1, some v2, none, x4, none, none, none] ∧ Ext H H' ∧ Is K H' v2 (.lst (L.map Ste.d)) ∧ InvS wd b L) (ws_forS PassesOwn.never rfl (B := H) (evs_list (evb_v 1 h1) e1) (pgn 4 hN) (fun i σ' H' => ∃ (v2 : V) (x4 : Option V) (L : List Ste), σ' = [some v0, some v1, some v2, none, x4, none, none, none] ∧ Ext H H' ∧ Is K H' v2 (.lst (L.map Ste.d)) ∧ InvS wd (b.take i) L) (fun i σ' H' ⟨_, _, _, _, h, _⟩ => h)
    (fun H2 e2 => ⟨v2, none, _, rfl, e1.trans e2, i2.mono e2, inv_start wf⟩) ?_ ?_) ?_
  · rintro i d σ' H' v4 hd ⟨v2, x4, L, rfl, eB, iL, inv⟩ hv4
    obtain ⟨job, hj, rfl⟩ := map_get hd
    have hi : i < b.length := (List.getElem?_eq_some_iff.mp hj).1
    have tk : b.take (i + 1) = b.take i ++ [job] := by
      obtain ⟨h1, h2⟩ := List.getElem?_eq_some_iff.mp hj
      rw [List.take_succ_eq_append_getElem h1, h2]
    cases hv4
    refine wss_one (ws_setW hN (i := 2) (we_call (kq_law_steps T) hr (wa_cons (we_v 0 (wa_cons (we_v 2 (wa_cons (we_v 4 (wa_nil ⟨v0, v2, wd, L, job, rfl, h0.mono eB, wf, iL, inv.few, fun v' H2 L' e2 lo i2 => ⟨v', _, L', rfl, eB.trans e2, i2, ?_⟩⟩)))))))))
    rw [tk]
    refine inv_step wf ?_ inv lo
    rw [← tk, List.length_take]; omega
  · rintro σ' H' ⟨v2, x4, L, rfl, eB, iL, inv⟩
    rw [List.length_map, List.take_length] at inv
    exact ⟨v2, x4, L, rfl, eB, iL, inv⟩
  rintro _ H2 ⟨v2, x4, L, rfl, eB, iL, inv⟩
  have few := inv.few
  refine wss_mid (fun σ' H' => ∃ (v5 : V), σ' = [some v0, some v1, some v2, none, x4, some v5, none, none] ∧ Ext H H' ∧ Is K H' v5 (.lst (((L.filter fun s => decide (s.r ∈ wd.lasts)).map (fun s => ((max s.w s.n : Nat) : Int))).map D.int))) (ws_lcT (l := L) (E := Ste.d) (own := [("_law_room", 3), ("_law_worst", 6), ("_law_now", 7)]) (g := gTup K 3 (gCons (gName 3) (gCons (gName 6) (gCons (gName 7) gNil)))) 5 (fun s => decide (s.r ∈ wd.lasts)) (fun s => .int ((max s.w s.n : Nat) : Int)) hN (blkOk_by (by kernel_rfl)) (EvIB.i (evi_list (evb_v 2 iL) (Ext.refl _)) (Ext.refl _)) (by omega) (fun _ _ _ _ _ => pg3 3 6 7 rfl hN) gm3 (fun s hs v3 H3 e3 i3 => ?_) (fun _ _ _ => noLst_int _) fun v H3 e3 i3 => ⟨v, rfl, eB.trans e3, by rw [List.map_map]; exact i3⟩) ?_
  · refine gTup3 (show Is K H3 v3 (.tup [.str s.r, .int (s.w : Int), .int (s.n : Int)]) from i3) fun u1 u2 u3 k1 k2 k3 => ?_
    cases k1; cases k2; cases k3
    exact ⟨rfl, rfl, fun _ _ _ _ _ => evt_inSL (ev_v 3 (.str s.r)) (wd_ix (ev_v 0 (h0.mono (eB.trans e3)))).2.2.1, fun _ _ _ _ _ _ => Ev.is (ev_max2 rfl T.f_max (ev_v 6 (.int (s.w : Int))) (ev_v 7 (.int (s.n : Int)))) (by congr 1; split <;> omega)⟩
  rintro _ H3 ⟨v5, rfl, e3, i5⟩
  have key := fun o => inv_min (o := o) inv
  generalize hns : (L.filter fun s => decide (s.r ∈ wd.lasts)).map (fun s => ((max s.w s.n : Nat) : Int)) = ns at i5 key
  have knil : ns = [] → (L.filter fun s => decide (s.r ∈ wd.lasts)) = [] := fun z => List.map_eq_nil_iff.mp (hns.trans z)
  refine wss_one (ws_retW (we_if ((evt_neNilD hr.units (plain_ints ns) (shaped_ints ns) (ev_v 5 i5) (ev_lst eva_nil (by decide))).wt (Ext.refl H3) fun H4 e4 => ?_)))
  cases hn : (ns.map D.int).isEmpty with
  | true =>
    have z : ns = [] := List.map_eq_nil_iff.mp (List.isEmpty_iff.mp hn)
    refine iteF (ev_non.we (Ext.refl H4) fun v H5 e5 hv => k v H5 none (e3.trans (e4.trans e5)) (key none (knil z)) hv)
  | false =>
    have z : ns ≠ [] := fun z => by rw [z] at hn; cases hn
    obtain ⟨m, m1, m2⟩ := min_int z
    refine iteT ((ev_minI rfl T.f_min (List.length_pos_iff.mpr z) (fun y hy hy2 => Int.le_antisymm (hy2 m m1) (m2 y hy)) (ev_v 5 (i5.mono e4))).we (Ext.refl H4) fun v H5 e5 hv => k v H5 (some m) (e3.trans (e4.trans e5)) (key (some m) ⟨m1, m2⟩) hv)
end
end Wb
/-! The law's own comparisons. -/
namespace Wb
open PySem PySem.Spec L2
/-- data that the law compares -/
def xok : Nat → D → Prop
  | _, .str _ => True
  | _, .int _ => True
  | _, .non => True
  | k + 1, .tup ds => ds.length ≤ 1000 ∧ ∀ d ∈ ds, xok k d
  | k + 1, .lst ds => ds.length ≤ 1000 ∧ ∀ d ∈ ds, xok k d
  | _, _ => False
theorem zip_self (ds : List D) : zipD ds ds = ds.map fun d => .tup [d, d] := by
  induction ds with
  | nil => rfl
  | cons d ds ih =>
    unfold zipD at ih ⊢
    rw [List.zip_cons_cons, List.map_cons, ih]; rfl
section
variable {X : Cx} {a b c : Expr} {σ : L2.St} {H : Hp} {pos p p2 tpos q1 q2 : Pos} {d : D} {xs ys : List D}
theorem ev_isiLT {r : Bool} {t : String} {k : Nat} (hm : X.mg "isinstance" = none) (hl : X.mg "list" = none) (ht : X.mg "tuple" = none) (h : Ev X σ H a d) (k1 : kitB t "list" = some false ∧ kitB t "tuple" = some r ∨ kitB t "list" = some true ∧ r = true) (hd : tyn d = t := by rfl) (ht0 : t ≠ "" := by decide) (hg : Gl X "isinstance" := by rfl) (hgl : Gl X "list" := by rfl) (hgt : Gl X "tuple" := by rfl) (hs : noStar a = true := by rfl) :
    Ev X σ H (.Call (.Name "isinstance" p) [a, .Tuple [.Name "list" q1, .Name "tuple" q2] k tpos] [] pos) (.bl r) := fun H1 e1 Q q =>
  WE.of (pe_callB call_isiT hg hm PyProof.Rows.boot_isinstance WA.pa (by decide) (by decide) (star_cons hs) rfl) (wa_cons (h H1 e1 _ fun v H2 e2 hv => wa_cons (we_tup (wa_cons ((ev_tyn hl PyProof.Rows.boot_list hgl).we (H := H2) (Ext.refl _) fun u1 H3 e3 k1' => wa_cons ((ev_tyn ht PyProof.Rows.boot_tuple hgt).we (H := H3) (Ext.refl _) fun u2 H4 e4 k2' => wa_nil ⟨by show 2 ≤ 100000; decide, fun l hl => wa_nil (by
    cases k1'
    cases k2'
    have e5 := (e3.trans e4).trans (Ext.new (o := HO.tup [.ty "list", .ty "tuple"]) hl)
    refine ⟨v, l, _, .type t, [.type "list", .type "tuple"], r, rfl, upd_same, .cons (.ty _) (.cons (.ty _) .nil), ?_, ?_, q _ _ (e2.trans e5) (.bl r)⟩
    · rw [← hd]; exact tyX_of (hv.mono e5) (by rw [hd]; exact ht0)
    · rcases k1 with ⟨k1, k2⟩ | ⟨k1, rfl⟩
      · refine kitAny_cons (kit_ty k1) (fun _ => kitAny_cons (kit_ty k2) (fun z => ?_) fun z => z) fun z => by cases z
        rw [z]; rfl
      · exact kitAny_cons (kit_ty k1) (fun z => by cases z) fun _ => rfl)⟩))))) hs)
theorem ev_eqB {x y : Bool} (h : Ev X σ H a (.bl x)) (h2 : Ev X σ H b (.bl y)) : Ev X σ H (.Compare a [.Eq] [b] pos) (.bl (x == y)) := ev_cmp op_eq r2_eqB h h2
theorem yl_zipT {K : PySem.W.Frag} {B : Hp} {a b : Addr} (h : Is K B (.ref a) (.tup xs)) (h2 : Is K B (.ref b) (.tup ys)) : Yl K (RZ.ItzT K a b) B (zipD xs ys) := by
  cases h with
  | @tup _ vs _ hs ha =>
  cases h2 with
  | @tup _ ws _ hs2 hb =>
    have l1 := ha.length
    have l2 := hb.length
    refine ⟨fun i H' e hi => ?_, fun i H' v H'' d e hd y => ?_, fun H' e => ⟨vs, ws, sqT_mono e hs, sqT_mono e hs2, ?_⟩⟩
    · rw [zipD_length] at hi
      obtain ⟨v, hv, _⟩ := ha.get (i := i) (List.getElem?_eq_getElem (by omega))
      obtain ⟨u, hu, _⟩ := hb.get (i := i) (List.getElem?_eq_getElem (by omega))
      exact ⟨vs, ws, v, u, sqT_mono e hs, sqT_mono e hs2, hv, hu⟩
    · obtain ⟨T, x, y, rfl, hT, rfl, y1, y2⟩ := y
      obtain ⟨dx, dy, hx, hy, rfl⟩ := zipD_get hd
      obtain ⟨d1, q1, i1⟩ := ha.get' (y1 vs (sqT_mono e hs))
      obtain ⟨d2, q2, i2⟩ := hb.get' (y2 ws (sqT_mono e hs2))
      rw [hx] at q1; cases q1
      rw [hy] at q2; cases q2
      have n := e.trans (Ext.new hT (o := .tup [x, y]))
      exact ⟨Ext.new hT, .tup (.of upd_same) (.cons (i1.mono n) (.cons (i2.mono n) .nil))⟩
    · rw [zipD_length]; omega
theorem evi_zipT {elts : List Expr} {kk : Nat} {tpos : Pos} (hm : X.mg "zip" = none) (h : Ev X σ H a (.tup xs)) (h2 : Ev X σ H b (.tup ys)) (hg : Gl X "zip" := by rfl) (hs : noStar a = true := by rfl) (hs2 : noStar b = true := by rfl) :
    EvI X σ H (.Tuple elts kk tpos) (.Call (.Name "zip" p) [a, b] [] pos) (zipD xs ys) :=
  fun H1 e1 R q => WI.of (RZ.pi_zipA hg hm WA.pa (star_cons hs) (by rw [star_cons hs2]; rfl)) (eva_cons h (eva_cons h2 eva_nil hs2) hs H1 e1 _ fun vs H2 e2 hv => by
    obtain ⟨v0, v1, rfl, i0, i1⟩ := isAll2 hv
    have c0 := i0
    have c1 := i1
    cases i0 with
    | @tup a vs _ hs ha =>
    cases i1 with
    | @tup b ws _ hs2 hb => exact ⟨a, b, vs, ws, rfl, .inr ⟨hs, hs2, q _ H2 e2 (yl_zipT c0 c1)⟩⟩)
end
theorem kx1 : kitB "str" "list" = some false := by decide +kernel
theorem kx2 : kitB "str" "tuple" = some false := by decide +kernel
theorem kx3 : kitB "int" "list" = some false := by decide +kernel
theorem kx4 : kitB "int" "tuple" = some false := by decide +kernel
theorem kx5 : kitB "NoneType" "list" = some false := by decide +kernel
theorem kx6 : kitB "NoneType" "tuple" = some false := by decide +kernel
theorem kx7 : kitB "str" "dict" = some false := by decide +kernel
theorem kx8 : kitB "int" "dict" = some false := by decide +kernel
theorem kx9 : kitB "NoneType" "dict" = some false := by decide +kernel
theorem kx10 : kitB "str" "bool" = some false := by decide +kernel
theorem kx11 : kitB "int" "bool" = some false := by decide +kernel
theorem kx12 : kitB "NoneType" "bool" = some false := by decide +kernel
section
variable {P : Program} {w : World} {K : PySem.W.Frag} {mg : Str → Option Value} {base : Heap}
def Rexact (k : Nat) : List D → D → Prop := fun ds d => ∃ x : D, xok k x ∧ ds = [x, x] ∧ d = .bl true
abbrev N_law_exact : List Str := ["_law_one", "_law_other", "_law_alike", "_law_a", "_law_b", "_law_key"]
theorem kq_law_exact_of (T : Top w K mg) (k : Nat) (ih : ∀ j, j + 1 = k → Kp P w K mg base "_law_exact" ["_law_one", "_law_other"] [] (j + 1) (spD K (Rexact j))) : Kp P w K mg base "_law_exact" ["_law_one", "_law_other"] [] (k + 1) (spD K (Rexact k)) := by
  have hN : N_law_exact.Nodup := by decide +kernel
  refine kp_d (N := N_law_exact) T 62 rfl ⟨rfl, rfl, rfl, hN, rfl, by decide +kernel, by decide +kernel⟩ (fun _ _ _ _ _ _ us hl => match us, hl with | [_, _], _ => rfl) (fun ds d ⟨e, _, h, _⟩ => by rw [h]; rfl) ?_
  rintro cdv A outer s H vs ds d Q E hr hv ⟨x, ok, rfl, rfl⟩ kk
  obtain ⟨v0, v1, rfl, h0, h1⟩ := isAll2 hv
  have leaf : ∀ {t : String}, tyn x = t → t ≠ "" → kitB t "list" = some false → kitB t "tuple" = some false → kitB t "dict" = some false → kitB t "bool" = some false → R2D K rEq x x (.bl true) → WSs (Cd P w K mg base N_law_exact "_law_exact" s_law_exact cdv A outer s H E) (defBody s_law_exact) { nx := fun _ H' => Q .non H', rt := Q } (start N_law_exact [v0, v1]) H := by
    intro t e1 e2 k1 k2 k3 k4 rq
    refine wss_cons (ws_skip (evt_val (ev_isiLT (r := false) T.f_isinstance T.f_list T.f_tuple (ev_v 0 h0) (.inl ⟨k1, k2⟩) e1 e2)) fun H1 e1' => ?_)
    have h0 := h0.mono e1'
    have h1 := h1.mono e1'
    refine wss_cons (ws_skip (evt_val (ev_isi T.f_isinstance T.f_dict PyProof.Rows.boot_dict (ev_v 0 h0) k3 e1 e2)) fun H2 e2' => ?_)
    have h0 := h0.mono e2'
    have h1 := h1.mono e2'
    exact wss_one (ws_ret (ev_and (c := true) (d := true) (ev_eqB (ev_isi T.f_isinstance T.f_bool PyProof.Rows.boot_bool (ev_v 0 h0) k4 e1 e2) (ev_isi T.f_isinstance T.f_bool PyProof.Rows.boot_bool (ev_v 1 h1) k4 e1 e2)) fun _ => ev_one (ev_cmp op_eq rq (ev_v 0 h0) (ev_v 1 h1))) fun v H3 e3 hv => kk v H3 (e1'.trans (e2'.trans e3)) hv)
  cases x with
  | str z => exact leaf (t := "str") rfl (by decide) kx1 kx2 kx7 kx10 (fun x y H hx hy Q q => by
      have := r2_eqS (K := K) (a := z) (b := z) x y H hx hy Q
      rw [decide_eq_true rfl] at this
      exact this q)
  | int z => exact leaf (t := "int") rfl (by decide) kx3 kx4 kx8 kx11 (fun x y H hx hy Q q => by
      have := r2_eqI (K := K) (a := z) (b := z) x y H hx hy Q
      rw [decide_eq_true rfl] at this
      exact this q)
  | non => exact leaf (t := "NoneType") rfl (by decide) kx5 kx6 kx9 kx12 (fun x y H hx hy Q q => by
      cases hx; cases hy
      exact ⟨rfl, by rw [decide_eq_true rfl]; exact q _ H (Ext.refl _) (.bl _)⟩)
  | tup ds =>
    obtain ⟨j, rfl⟩ : ∃ j, k = j + 1 := by
      cases k with
      | zero => exact absurd ok (by simp [xok])
      | succ j => exact ⟨j, rfl⟩
    obtain ⟨l1000, okd⟩ := ok
    refine wss_cons (ws_if (c := true) (evt_val (ev_isiLT (r := true) T.f_isinstance T.f_list T.f_tuple (ev_v 0 h0) (.inl ⟨k_tl, k_tt⟩))) (fun _ H1 e1 => ?_) fun z => by cases z)
    have h0 := h0.mono e1
    have h1 := h1.mono e1
    refine wss_cons (ws_set hN (i := 2) (ev_and (c := true) (d := true) (ev_eqB (ev_isi T.f_isinstance T.f_list PyProof.Rows.boot_list (ev_v 1 h1) k_tl) (ev_isi T.f_isinstance T.f_list PyProof.Rows.boot_list (ev_v 0 h0) k_tl)) fun _ => ev_one (ev_eqB (ev_isi T.f_isinstance T.f_tuple PyProof.Rows.boot_tuple (ev_v 1 h1) k_tt) (ev_isi T.f_isinstance T.f_tuple PyProof.Rows.boot_tuple (ev_v 0 h0) k_tt))) fun v2 H2 e2 h2 => ?_)
    have h0 := h0.mono e2
    have h1 := h1.mono e2
    refine wss_one (ws_ret (ev_and (c := true) (d := true) (ev_v 2 h2) fun _ => ev_and (c := true) (d := true) (Ev.is (ev_eqI (ev_lenT T.f_len (ev_v 0 h0)) (ev_lenT T.f_len (ev_v 1 h1))) (by rw [decide_eq_true rfl])) fun _ => ev_one (Ev.is (ev_allB (bs := ds.map fun _ => true) rfl T.f_all (Ev.is (ev_lcN (l := ds) (E := fun d => .tup [d, d]) (own := [("_law_a", 3), ("_law_b", 4)]) (g := gTup K 2 (gCons (gName 3) (gCons (gName 4) gNil))) (fun _ => .bl true) rfl hN (blkOk_by (by kernel_rfl)) (by rw [← zip_self]; exact evi_zipT T.f_zip (ev_v 0 h0) (ev_v 1 h1)) (by omega) (fun _ _ _ _ _ => pg2 3 4 rfl hN) gm2 ?_ (fun _ _ => noLst_bl _)) (by rw [List.map_map]; rfl))) (by simp))) fun v H3 e3 hv => kk v H3 (e1.trans (e2.trans e3)) hv)
    intro y hy v3 H4 e4 i3
    exact gTup2 i3 fun u1 u2 k1 k2 => ⟨rfl, rfl, fun _ _ _ _ _ => ev_call (ih j rfl) (hr.mono (by omega)) (eva_cons (ev_v 3 k1) (eva_cons (ev_v 4 k2) eva_nil)) ⟨y, okd y hy, rfl, rfl⟩⟩
  | lst ds =>
    obtain ⟨j, rfl⟩ : ∃ j, k = j + 1 := by
      cases k with
      | zero => exact absurd ok (by simp [xok])
      | succ j => exact ⟨j, rfl⟩
    obtain ⟨l1000, okd⟩ := ok
    refine wss_cons (ws_if (c := true) (evt_val (ev_isiLT (r := true) T.f_isinstance T.f_list T.f_tuple (ev_v 0 h0) (.inr ⟨k_ll, rfl⟩))) (fun _ H1 e1 => ?_) fun z => by cases z)
    have h0 := h0.mono e1
    have h1 := h1.mono e1
    refine wss_cons (ws_set hN (i := 2) (ev_and (c := true) (d := true) (ev_eqB (ev_isi T.f_isinstance T.f_list PyProof.Rows.boot_list (ev_v 1 h1) k_ll) (ev_isi T.f_isinstance T.f_list PyProof.Rows.boot_list (ev_v 0 h0) k_ll)) fun _ => ev_one (ev_eqB (ev_isi T.f_isinstance T.f_tuple PyProof.Rows.boot_tuple (ev_v 1 h1) k_lt) (ev_isi T.f_isinstance T.f_tuple PyProof.Rows.boot_tuple (ev_v 0 h0) k_lt))) fun v2 H2 e2 h2 => ?_)
    have h0 := h0.mono e2
    have h1 := h1.mono e2
    refine wss_one (ws_ret (ev_and (c := true) (d := true) (ev_v 2 h2) fun _ => ev_and (c := true) (d := true) (Ev.is (ev_eqI (ev_lenL T.f_len (ev_v 0 h0)) (ev_lenL T.f_len (ev_v 1 h1))) (by rw [decide_eq_true rfl])) fun _ => ev_one (Ev.is (ev_allB (bs := ds.map fun _ => true) rfl T.f_all (Ev.is (ev_lcN (l := ds) (E := fun d => .tup [d, d]) (own := [("_law_a", 3), ("_law_b", 4)]) (g := gTup K 2 (gCons (gName 3) (gCons (gName 4) gNil))) (fun _ => .bl true) rfl hN (blkOk_by (by kernel_rfl)) (by rw [← zip_self]; exact evi_zip T.f_zip (ev_v 0 h0) (ev_v 1 h1)) (by omega) (fun _ _ _ _ _ => pg2 3 4 rfl hN) gm2 ?_ (fun _ _ => noLst_bl _)) (by rw [List.map_map]; rfl))) (by simp))) fun v H3 e3 hv => kk v H3 (e1.trans (e2.trans e3)) hv)
    intro y hy v3 H4 e4 i3
    exact gTup2 i3 fun u1 u2 k1 k2 => ⟨rfl, rfl, fun _ _ _ _ _ => ev_call (ih j rfl) (hr.mono (by omega)) (eva_cons (ev_v 3 k1) (eva_cons (ev_v 4 k2) eva_nil)) ⟨y, okd y hy, rfl, rfl⟩⟩
  | bl b => exact absurd ok (by cases k <;> simp [xok])
  | dct F => exact absurd ok (by cases k <;> simp [xok])
  | man m => exact absurd ok (by cases k <;> simp [xok])
  | rng a b => exact absurd ok (by cases k <;> simp [xok])
  | ty n => exact absurd ok (by cases k <;> simp [xok])
  | obj a => exact absurd ok (by cases k <;> simp [xok])
theorem kq_law_exact (T : Top w K mg) : ∀ k, Kp P w K mg base "_law_exact" ["_law_one", "_law_other"] [] (k + 1) (spD K (Rexact k))
  | 0 => kq_law_exact_of T 0 fun j h => by cases h
  | k + 1 => kq_law_exact_of T (k + 1) fun j h => by cases h; exact kq_law_exact T k
/-! _law_marks_right -/
def Rright : List D → D → Prop := fun ds d => ∃ a t : Wb.Mk, Rm a t ∧ ds = [mkD a, mkD t] ∧ d = .bl true
abbrev N__law_marks_right : List Str := ["_law_mark", "_law_told"]
theorem kp__law_marks_right (T : Top w K mg) : Kp P w K mg base "_law_marks_right" ["_law_mark", "_law_told"] [] 4 (spD K Rright) := by
  have hN : N__law_marks_right.Nodup := by decide +kernel
  refine kp_d (N := N__law_marks_right) T 77 rfl ⟨rfl, rfl, rfl, hN, rfl, by decide +kernel, by decide +kernel⟩ (fun _ _ _ _ _ _ us hl => match us, hl with | [_, _], _ => rfl) (fun ds d ⟨a, t, _, h, _⟩ => by rw [h]; rfl) ?_
  rintro cdv A outer s H vs ds d Q E hr hv ⟨a, t, rm, rfl, rfl⟩ k
  obtain ⟨v0, v1, rfl, h0, h1⟩ := isAll2 hv
  have never : ∀ x : Wb.Mk, decide (mkS x = "never") = decide (x = .never) := fun x => mkS_eq x .never
  refine wss_cons (ws_skip (EvT.is (evt_cmp op_ne r2_neB (ev_eqS (ev_v 0 h0) ev_str) (ev_eqS (ev_v 1 h1) ev_str)) ?_) fun H1 e1 => ?_)
  · rw [never, never]
    by_cases c : a = .never
    · rw [decide_eq_true c, decide_eq_true (rm.1.mp c)]; rfl
    · rw [decide_eq_false c, decide_eq_false fun z => c (rm.1.mpr z)]; rfl
  have h0 := h0.mono e1
  have h1 := h1.mono e1
  refine wss_cons (ws_skip (EvW.t (EvW.is (evw_and (c := decide (mkS a ∈ [mkS .full, mkS .free, mkS .some])) (evt_inST (ss := [mkS .full, mkS .free, mkS .some]) (ev_v 0 h0) (ev_tup (eva_cons ev_str (eva_cons ev_str (eva_cons ev_str eva_nil))) (by show 3 ≤ 100000; decide))) fun _ => evw_and1 (evt_val (ev_call (kp_is_better T) hr (eva_cons (ev_v 0 h0) (eva_cons (ev_v 1 h1) eva_nil)) ⟨a, t, rfl, rfl⟩))) ?_)) fun H2 e2 => ?_)
  · have e : decide (mkS a ∈ [mkS .full, mkS .free, mkS .some]) = decide (a ∈ [Wb.Mk.full, .free, .some]) := mem_mkS (l := [.full, .free, .some])
    rw [e]
    have h2 := rm.2.1
    revert h2
    cases a <;> cases t <;> decide
  have h0 := h0.mono e2
  have h1 := h1.mono e2
  refine wss_one (ws_ret (Ev.is (ev_or (ev_neS (ev_v 1 h1) ev_str) fun _ => ev_one (ev_inST (ss := [mkS .full, mkS .free]) (ev_v 0 h0) (ev_tup (eva_cons ev_str (eva_cons ev_str eva_nil)) (by show 2 ≤ 100000; decide)))) ?_) fun v H3 e3 hv => k v H3 (e1.trans (e2.trans e3)) hv)
  have e : decide (mkS a ∈ [mkS .full, mkS .free]) = decide (a ∈ [Wb.Mk.full, .free]) := mem_mkS (l := [.full, .free])
  have e3 : decide (mkS t = "free") = decide (t = .free) := mkS_eq t .free
  rw [e, e3]
  congr 1
  have h3 := rm.2.2
  revert h3
  cases a <;> cases t <;> decide
end
end Wb
/-! Expressions drawn. -/
namespace Wb
open PySem PySem.Spec L2
/-- H' without the lists of H -/
def noL (H H' : Hp) : Hp := fun a => match H a with
  | some (.lst _) => none
  | _ => H' a
theorem noL_none {H H' : Hp} {a : Addr} {xs : List V} (h : H a = some (.lst xs)) : noL H H' a = none := by unfold noL; rw [h]
theorem noL_else {H H' : Hp} {a : Addr} (h : ∀ xs, H a ≠ some (.lst xs)) : noL H H' a = H' a := by
  unfold noL
  split
  · rename_i xs e; exact absurd e (h xs)
  · rfl
theorem noL_some {H H' : Hp} {a : Addr} {o : HO} (h : noL H H' a = some o) : (∀ xs, H a ≠ some (.lst xs)) ∧ H' a = some o := by
  have k : ∀ xs, H a ≠ some (.lst xs) := fun xs e => by rw [noL_none e] at h; cases h
  exact ⟨k, by rw [noL_else k] at h; exact h⟩
theorem noL_ext {H H' : Hp} : Ext (noL H H') H' := fun a o h => (noL_some h).2
theorem noL_mono {H H1 H2 : Hp} (e : Ext H1 H2) : Ext (noL H H1) (noL H H2) := fun a o h => by
  obtain ⟨h1, h2⟩ := noL_some h
  rw [noL_else h1]; exact e _ _ h2
/-- the lists of H are lists of H1 -/
def LK (H H1 : Hp) : Prop := ∀ a xs, H a = some (.lst xs) → ∃ ys, H1 a = some (.lst ys)
theorem LK.ext {H H1 : Hp} (e : Ext H H1) : LK H H1 := fun a xs h => ⟨xs, e _ _ h⟩
theorem LK.trans {H H1 H2 : Hp} (a : LK H H1) (b : LK H1 H2) : LK H H2 := fun x xs h => let ⟨ys, h1⟩ := a x xs h; b x ys h1
theorem LK.stp {H H1 : Hp} {p : Addr} {n : Nat} (s : Stp p n (wo H p) H1) : LK H H1 := fun a xs h => by
  by_cases c : a = p
  · subst c
    obtain ⟨x, y, z, u, h1, _⟩ := s.pu.at_
    exact ⟨_, h1⟩
  · exact ⟨xs, s.ext _ _ (by rw [wo_ne c]; exact h)⟩
theorem noL_less {H H1 H' : Hp} (k : LK H H1) : Ext (noL H1 H') (noL H H') := fun a o h => by
  obtain ⟨h1, h2⟩ := noL_some h
  rw [noL_else fun xs e => by obtain ⟨ys, h3⟩ := k a xs e; exact h1 ys h3]
  exact h2
theorem noL_purse {H H1 H2 : Hp} {p : Addr} {xs : List V} (hp : H p = some (.lst xs)) (e : Ext (wo H1 p) H2) : Ext (noL H H1) (noL H H2) := fun a o h => by
  obtain ⟨h1, h2⟩ := noL_some h
  rw [noL_else h1]
  refine e _ _ ?_
  rw [wo_ne fun z => by subst z; exact h1 _ hp]
  exact h2
theorem Stp.lst {p : Addr} {n : Nat} {B H : Hp} (s : Stp p n B H) : ∃ xs, H p = some (.lst xs) := by
  obtain ⟨x, y, z, u, h1, _⟩ := s.pu.at_
  exact ⟨_, h1⟩
theorem Stp.none {p a : Addr} {n m : Nat} {H H1 : Hp} (s : Stp p n (wo H p) H1) (h : H1 a = none) : H a = none ∧ a ≠ p := by
  have c := s.ne h
  refine ⟨?_, c⟩
  have := s.ext.back h
  rwa [wo_ne c] at this
section
variable {P : Program} {w : World} {K : PySem.W.Frag} {mg : Str → Option Value} {base : Heap}
def spE (K : PySem.W.Frag) (s : Nat) : Sp := fun vs H Q _ => ∃ (p : Addr) (n : Nat) (B : Hp) (v1 : V) (js : List Str) (nest size : Nat), vs = [.ref p, v1, .int (nest : Int), .int (size : Int)] ∧ Stp p n B H ∧ n + 2 * 10 ^ s ≤ 1000000000 ∧ Is K B v1 (.lst (js.map D.str)) ∧ js ≠ [] ∧ js.length ≤ 3 ∧ (∀ j ∈ js, IsWord j) ∧ size ≤ s ∧ s ≤ 6 ∧
  ∀ v H' e, Stp p (n + 2 * 10 ^ s) B H' → Ex.wf e → Ex.dep e ≤ s → Is K (noL H H') v (Ex.d e) → Q v H'
abbrev N_law_expression : List Str := ["_law_purse_here", "_law_jobs", "_law_nest", "_law_size", "_law_way", "_law_many", "_law_part"]
theorem dep_all {s : Nat} : ∀ {es : List Ex}, (∀ e ∈ es, e.dep ≤ s) → Ex.deps es ≤ s
  | [], _ => by rw [Ex.deps]; exact Nat.zero_le _
  | e :: es, h => by rw [Ex.deps]; exact Nat.max_le.mpr ⟨h e (.head _), dep_all fun x hx => h x (.tail _ hx)⟩
theorem wf_all : ∀ {es : List Ex}, (∀ e ∈ es, e.wf) → Ex.wfs es
  | [], _ => by rw [Ex.wfs]; trivial
  | e :: es, h => by rw [Ex.wfs]; exact ⟨h e (.head _), wf_all fun x hx => h x (.tail _ hx)⟩
theorem kq_expr_of (T : Top w K mg) (s : Nat) (ih : ∀ j, j + 1 = s → Kp P w K mg base "_law_expression" ["_law_purse_here", "_law_jobs", "_law_nest", "_law_size"] [] (j + 4) (spE K j)) : Kp P w K mg base "_law_expression" ["_law_purse_here", "_law_jobs", "_law_nest", "_law_size"] [] (s + 4) (spE K s) := by
  have hN : N_law_expression.Nodup := by decide +kernel
  refine kp_of (N := N_law_expression) T 76 rfl ⟨rfl, rfl, rfl, hN, rfl, by decide +kernel, by decide +kernel⟩ (fun _ _ _ _ _ _ us hl => match us, hl with | [_, _, _, _], _ => rfl) (fun vs H Q E ⟨_, _, _, _, _, _, _, h, _⟩ => by rw [h]; rfl) ?_
  rintro cdv A outer sh H vs Q E hr ⟨p, n, B, v1, js, nest, size, rfl, st, hn, h1, jn, j3, jw, sz, s6, k⟩
  have hr2 := hr.mono (show 2 ≤ s + 3 by omega)
  have hr3 := hr.mono (show 3 ≤ s + 3 by omega)
  have pos : 1 ≤ 10 ^ s := Nat.one_le_pow _ _ (by decide)
  obtain ⟨px, hpx⟩ := st.lst
  have st0 := st.base
  have h1 := h1.mono st.up
  have up := st.up
  refine wss_cons (ws_setW hN (i := 4) (we_draw (kq_law_draw T) hr2 st0 (by omega) (ev_v 0 (.obj p)) (eva_cons ev_int eva_nil) rfl ⟨6, by decide, by decide, rfl⟩ fun v4 H1 d1 q1 s1 i1 => ?_))
  obtain ⟨m, way, e1, rfl, lw⟩ := q1
  cases e1
  cases i1
  refine wss_cons (ws_if (c := decide ((size : Int) < 2) || decide ((way : Int) = 0)) (EvW.t (evw_or (evt_lt (ev_v 3 (.int (size : Int))) ev_int) fun _ => evw_or1 (evt_eqI (ev_v 4 (.int (way : Int))) ev_int))) (fun q H2 e2 => ?_) (fun q H2 e2 => wss_nil ?_))
  · refine wss_one (ws_retW (we_draw (kq_law_one_of T) hr3 (s1.to e2) (by omega) (ev_v 0 (.obj p)) (eva_cons (ev_v 1 h1) eva_nil) (by rw [offIs, off_strs]; rfl) ⟨js, jn, by omega, rfl⟩ fun v5 H5 d5 q5 s5 i5 => ?_))
    obtain ⟨l5, job, e5, m5, rfl⟩ := q5
    obtain rfl : l5 = js := by injection e5 with e5 _; injection e5 with e5; exact (strs_inj e5).symm
    cases i5
    exact k _ H5 (.job job) ((s5.low up).mono (by omega)) (by rw [Ex.wf]; exact jw _ m5) (by rw [Ex.dep]; exact Nat.zero_le _) (by rw [Ex.d]; exact .str _)
  have s2 := s1.to e2
  have size2 : 2 ≤ size := by
    have := (Bool.or_eq_false_iff.mp q).1
    have := of_decide_eq_false this
    omega
  obtain ⟨j, rfl⟩ : ∃ j, s = j + 1 := ⟨s - 1, by omega⟩
  have pw : 10 ^ (j + 1) = 10 * 10 ^ j := by rw [Nat.pow_succ, Nat.mul_comm]
  have posj : 1 ≤ 10 ^ j := Nat.one_le_pow _ _ (by decide)
  have hrj := hr.mono (show j + 4 ≤ j + 1 + 3 by omega)
  refine wss_cons (ws_if (c := decide ((0 : Int) < nest) && decide ((way : Int) < 4)) (EvW.t (evw_and (evt_gt (ev_v 2 (.int (nest : Int))) ev_int) fun _ => evw_and1 (evt_lt (ev_v 4 (.int (way : Int))) ev_int))) (fun q2 H3 e3 => ?_) (fun q2 H3 e3 => wss_nil ?_))
  · have s3 := s2.to e3
    have n0 := of_decide_eq_true (Bool.and_eq_true_iff.mp q2).1
    refine wss_one (ws_retW (we_tup (wa_cons (we_str (wa_cons ?_)))))
    refine we_call (ih j rfl) hrj (wa_cons (we_v 0 (wa_cons (we_v 1 (wa_cons ((ev_sub (ev_v 2 (.int (nest : Int))) ev_int).we (Ext.refl H3) fun v6 H4 e4 i6 => wa_cons ((ev_sub (ev_v 3 (.int (size : Int))) ev_int).we (Ext.refl H4) fun v7 H5 e5 i7 => wa_nil ?_)))))))
    cases i6
    cases i7
    have s5 := (s3.to e4).to e5
    refine ⟨p, n + 1, wo H p, v1, js, nest - 1, size - 1, by
      have a1 : ((nest - 1 : Nat) : Int) = (nest : Int) - 1 := by omega
      have a2 : ((size - 1 : Nat) : Int) = (size : Int) - 1 := by omega
      rw [a1, a2]; rfl, s5, by omega, h1, jn, j3, jw, by omega, by omega, fun v8 H8 e s8 wf dk i8 => wa_nil ⟨by show 2 ≤ 100000; decide, fun l hl => ?_⟩⟩
    obtain ⟨hlH, hlp⟩ := s8.none (m := 0) hl
    have i8 : Is K (noL H H8) v8 (Ex.d e) := i8.mono (noL_less (LK.stp s5))
    have eN := Ext.new (o := HO.tup [.str "again", v8]) hl
    refine k _ _ (.again e) (((s8.low up).to eN).mono (by omega)) (by rw [Ex.wf]; exact wf) (by rw [Ex.dep]; omega) ?_
    rw [Ex.d]
    refine .tup (.of ?_) (.cons (.str _) (.cons (i8.mono (noL_mono eN)) .nil))
    rw [noL_else fun xs z => by rw [hlH] at z; cases z]
    exact upd_same
  have s3 := s2.to e3
  refine wss_cons (ws_setW hN (i := 5) (we_draw (kq_law_draw T) hr2 s3 (by omega) (ev_v 0 (.obj p)) (eva_cons (ev_min2 rfl T.f_min ev_int (ev_add (ev_v 3 (.int (size : Int))) ev_int)) eva_nil) rfl ⟨_, by split <;> omega, by split <;> omega, rfl⟩ fun v5 H5 d5 q5 s5 i5 => ?_))
  obtain ⟨m5, many, e5, rfl, lm⟩ := q5
  cases i5
  have lm5 : many ≤ 5 ∧ many ≤ size := by
    injection e5 with e5 _
    injection e5 with e5
    rw [← e5] at lm
    split at lm <;> omega
  refine wss_one (ws_retW (we_tup (wa_cons (we_str (wa_cons ?_)))))
  refine we_lcY (own := [("_law_part", 6)]) (g := gName 6) hN (blkOk_by (by kernel_rfl)) (fun _ _ _ _ _ => pgn 6 hN) ?_
  refine lc_drawY (c := 2 * 10 ^ j) (fun R q => (evi_range (n := many) (B := wo H p) T.f_range (eva_cons (ev_v 5 (.int (many : Int))) eva_nil) (by omega)) H5 (Ext.refl _) R fun J H3 e3 y => q J H3 e3 y) (by simp; omega) gm_name s5 (fun i acc Hx => ∃ es : List Ex, es.length = i ∧ (∀ e ∈ es, e.wf) ∧ (∀ e ∈ es, e.dep ≤ j) ∧ IsAll K (noL H Hx) acc (es.map Ex.d)) (fun _ => ⟨[], rfl, by simp, by simp, .nil⟩) (fun i acc H1 H2 e ⟨es, a1, a2, a3, a4⟩ => ⟨es, a1, a2, a3, a4.mono (noL_mono e)⟩) ?_ ?_
  · rintro i d v6 H6 B' Dl acc hi hd eB s6' hv hDB hDp hD - ⟨es, a1, a2, a3, a4⟩
    simp at hi
    refine ⟨rfl, fun s' H'' C cl fp => we_call (ih j rfl) hrj (wa_cons (we_v 0 (wa_cons (we_v 1 (wa_cons (we_v 2 (wa_cons ((ev_fdv (j := if (many : Int) > 2 then (many : Int) else 2) (by split <;> omega) (ev_v 3 (.int (size : Int))) (ev_max2 rfl T.f_max ev_int (ev_v 5 (.int (many : Int))))).we (Ext.refl H6) fun v7 H7 e7 i7 => wa_nil ?_))))))))⟩
    cases i7
    have s7 := (s6'.base).to e7
    have mx : ∃ c : Nat, 2 ≤ c ∧ (if (many : Int) > 2 then (many : Int) else 2) = (c : Int) := ⟨if many > 2 then many else 2, by split <;> omega, by split <;> split <;> omega⟩
    obtain ⟨c, c2, ec⟩ := mx
    have lt : size / c ≤ j := by
      have : size / c ≤ size / 2 := Nat.div_le_div_left c2 (by decide)
      omega
    have bnd : i * (2 * 10 ^ j) + 2 * 10 ^ j ≤ 5 * (2 * 10 ^ j) := by
      have : (i + 1) * (2 * 10 ^ j) ≤ 5 * (2 * 10 ^ j) := Nat.mul_le_mul_right _ (by omega)
      rw [Nat.succ_mul] at this
      exact this
    refine ⟨p, _, wo H6 p, v1, js, nest, size / c, by rw [ec]; rfl, s7, by omega, h1.mono (eB.trans s6'.up), jn, j3, jw, lt, by omega, fun v8 H8 e s8 wf dk i8 => ?_⟩
    refine ⟨(s8.low s6'.up).mono (by have := Nat.succ_mul i (2 * 10 ^ j); simp only [Nat.succ_eq_add_one] at this; omega), es ++ [e], by rw [List.length_append, a1]; rfl, ?_, ?_, ?_⟩
    · intro x hx
      rcases List.mem_append.mp hx with hx | hx
      · exact a2 x hx
      · rw [List.mem_singleton.mp hx]; exact wf
    · intro x hx
      rcases List.mem_append.mp hx with hx | hx
      · exact a3 x hx
      · rw [List.mem_singleton.mp hx]; exact dk
    · have hD6 := s6'.ext _ _ hD
      rw [List.map_append]
      refine (a4.mono fun a o h => ?_).append (.cons (i8.mono fun a o h => ?_) .nil)
      · obtain ⟨b1, b2⟩ := noL_some h
        have c1 : a ≠ Dl := fun z => by subst z; rw [wo_same] at b2; cases b2
        rw [wo_ne c1] at b2
        rw [noL_else b1, wo_ne c1]
        refine s8.ext _ _ ?_
        rw [wo_ne fun z => by subst z; exact b1 _ hpx]
        exact b2
      · obtain ⟨b1, b2⟩ := noL_some h
        have c1 : a ≠ Dl := fun z => by subst z; exact b1 _ (e7 _ _ hD6)
        have lk : LK H H7 := LK.stp (s7.low (s6'.up.trans (Ext.refl _)) |>.low eB)
        rw [noL_else fun xs z => by obtain ⟨ys, h3⟩ := lk a xs z; exact b1 ys h3, wo_ne c1]
        exact b2
  · rintro Dl acc H6 s6' hDl hDp hD - ⟨es, a1, a2, a3, a4⟩
    simp only [List.length_map, List.length_range] at a1 s6'
    refine wa_nil ⟨by show 2 ≤ 100000; decide, fun l hl => ?_⟩
    obtain ⟨hlH, hlp⟩ := s6'.none (m := 0) hl
    obtain ⟨hDH, _⟩ := s5.none (m := 0) hDl
    have eN := Ext.new (o := HO.tup [.str "row", .ref Dl]) hl
    have bnd : many * (2 * 10 ^ j) ≤ 5 * (2 * 10 ^ j) := Nat.mul_le_mul_right _ lm5.1
    refine k _ _ (.row es) (((s6'.low up).to eN).mono (by omega)) (by rw [Ex.wf]; exact ⟨by omega, wf_all a2⟩) (by rw [Ex.dep]; exact Nat.succ_le_succ (dep_all a3)) ?_
    rw [Ex.d, Ex.ds_map]
    refine .tup (xs := [.str "row", .ref Dl]) (.of ?_) (.cons (.str _) (.cons (.lst (a := Dl) (xs := acc) ?_ ?_) .nil))
    · rw [noL_else fun xs z => by rw [hlH] at z; cases z]
      exact upd_same
    · rw [noL_else fun xs z => by rw [hDH] at z; cases z]
      exact eN _ _ hD
    · exact (a4.mono (noL_mono Ext.ofWo)).mono (noL_mono eN)
theorem kq_expr (T : Top w K mg) : ∀ s, Kp P w K mg base "_law_expression" ["_law_purse_here", "_law_jobs", "_law_nest", "_law_size"] [] (s + 4) (spE K s)
  | 0 => kq_expr_of T 0 fun j h => by cases h
  | s + 1 => kq_expr_of T (s + 1) fun j h => by cases h; exact kq_expr T s
end
end Wb
/-! What the law asks of a writing. -/
namespace Wb
open PySem PySem.Spec L2
/-! ### lists in order -/
theorem sorted_uniq {α : Type} {le : α → α → Prop} (anti : ∀ a b, le a b → le b a → a = b) : ∀ {l r : List α}, l.Pairwise le → r.Pairwise le → l.Nodup → r.Nodup → (∀ x, x ∈ l ↔ x ∈ r) → l = r
  | [], [], _, _, _, _, _ => rfl
  | [], b :: r, _, _, _, _, h => by have := (h b).mpr (.head _); cases this
  | a :: l, [], _, _, _, _, h => by have := (h a).mp (.head _); cases this
  | a :: l, b :: r, p1, p2, n1, n2, h => by
    obtain ⟨q1, q2⟩ := List.pairwise_cons.mp p1
    obtain ⟨q3, q4⟩ := List.pairwise_cons.mp p2
    obtain ⟨m1, m2⟩ := List.nodup_cons.mp n1
    obtain ⟨m3, m4⟩ := List.nodup_cons.mp n2
    have e : a = b := by
      rcases List.mem_cons.mp ((h a).mp (.head _)) with e | ha
      · exact e
      · rcases List.mem_cons.mp ((h b).mpr (.head _)) with e | hb
        · exact e.symm
        · exact anti a b (q1 b hb) (q3 a ha)
    subst e
    congr 1
    refine sorted_uniq anti q2 q4 m2 m4 fun x => ⟨fun hx => ?_, fun hx => ?_⟩
    · rcases List.mem_cons.mp ((h x).mp (.tail _ hx)) with rfl | h
      · exact absurd hx m1
      · exact h
    · rcases List.mem_cons.mp ((h x).mpr (.tail _ hx)) with rfl | h
      · exact absurd hx m3
      · exact h
def leS (a b : Str) : Prop := ¬ (b.cps.toList < a.cps.toList)
theorem leS_anti (a b : Str) (h : leS a b) (h2 : leS b a) : a = b := by
  unfold leS at h h2
  rw [List.not_lt] at h h2
  have e := List.le_antisymm h h2
  cases a; cases b
  simp only [Str.mk.injEq]
  exact Array.toList_inj.mp e
theorem leS_trans {a b c : Str} (h : leS a b) (h2 : leS b c) : leS a c := by
  unfold leS at *
  rw [List.not_lt] at *
  exact List.le_trans h h2
theorem rising_pw : ∀ (l : List Str) (p : Str), PyProof.Rows.risingS p l = true → (p :: l).Pairwise leS
  | [], p, _ => List.pairwise_singleton _ _
  | x :: r, p, h => by
    have h : (!PySem.Spec.ltCps x.cps.toList p.cps.toList && PyProof.Rows.risingS x r) = true := h
    obtain ⟨h1, h2⟩ := Bool.and_eq_true_iff.mp h
    have ih := rising_pw r x h2
    have hp : leS p x := fun z => by rw [PyProof.Rows.ltCps_eq, decide_eq_true z] at h1; cases h1
    refine List.pairwise_cons.mpr ⟨fun y hy => ?_, ih⟩
    rcases List.mem_cons.mp hy with rfl | hy
    · exact hp
    · exact leS_trans hp ((List.pairwise_cons.mp ih).1 y hy)
theorem sorted_pw : ∀ {l : List Str}, PyProof.Rows.sortedS l = true → l.Pairwise leS
  | [], _ => .nil
  | x :: r, h => rising_pw r x h
theorem sorted_eq {l r : List Str} (h : PyProof.Rows.sortedS l = true) (h2 : PyProof.Rows.sortedS r = true) (n : l.Nodup) (n2 : r.Nodup) (m : ∀ x, x ∈ l ↔ x ∈ r) : l = r := sorted_uniq leS_anti (sorted_pw h) (sorted_pw h2) n n2 m
/-! ### a world's manual -/
structure MW (m : Mn) (wd : Wd) : Prop where
  wf : WfM m
  rows : ∀ x, x ∈ m.rows ↔ x ∈ wd.rows
  firsts : ∀ x, x ∈ m.firsts ↔ x ∈ wd.firsts
  lasts : ∀ x, x ∈ m.lasts ↔ x ∈ wd.lasts
  so : PyProof.Rows.sortedS m.rooms = true
  mem : ∀ r, r ∈ m.rooms ↔ r ∈ roomsL wd
theorem mw_of {m : Mn} {wd : Wd} (wf : WfW wd) (h : ManOf m wd.rows wd.firsts wd.lasts) : MW m wd := by
  have mem : ∀ r, r ∈ m.rooms ↔ r ∈ roomsL wd := fun r => by
    unfold roomsL
    rw [h.mem, List.mem_append, List.mem_append, List.mem_append, or_assoc, or_assoc]
  have inR : ∀ r ∈ m.rooms, r ∈ wd.rooms := fun r hr => by
    rcases (h.mem r).mp hr with q | q | q | q
    · obtain ⟨x, hx, rfl⟩ := List.mem_map.mp q
      exact (wf.rows.within x hx).1
    · obtain ⟨x, hx, rfl⟩ := List.mem_map.mp q
      exact (wf.rows.within x hx).2.2.1
    · exact wf.firsts.subset q
    · exact wf.lasts.subset q
  refine ⟨⟨h.nd, Nat.le_trans (nodup_leG h.nd inR) wf.rj.r3, ?_, fun x hx => ?_, fun r hr => ?_, fun r hr => ?_, ?_, ?_, ?_, fun x hx => ?_, fun r hr => wf.rj.rW r (inR r hr)⟩, fun x => h.pR.mem_iff, fun x => h.pF.mem_iff, fun x => h.pL.mem_iff, h.so, mem⟩
  · rw [h.pR.length_eq]; have := wf.rows.few; omega
  · have hx := h.pR.mem_iff.mp hx
    exact ⟨(h.mem _).mpr (.inl (List.mem_map.mpr ⟨x, hx, rfl⟩)), (h.mem _).mpr (.inr (.inl (List.mem_map.mpr ⟨x, hx, rfl⟩)))⟩
  · exact (h.mem _).mpr (.inr (.inr (.inl (h.pF.mem_iff.mp hr))))
  · exact (h.mem _).mpr (.inr (.inr (.inr (h.pL.mem_iff.mp hr))))
  · exact h.pF.nodup_iff.mpr (List.Nodup.sublist wf.firsts wf.rj.rN)
  · exact h.pL.nodup_iff.mpr (List.Nodup.sublist wf.lasts wf.rj.rN)
  · exact h.pR.nodup_iff.mpr wf.rows.nd
  · exact wf.rows.x wf.rj x (h.pR.mem_iff.mp hx)
theorem Rc.congr {rows rows' : List Mnr} {fs fs' : List Str} (h1 : ∀ x ∈ rows, x ∈ rows') (h2 : ∀ x ∈ fs, x ∈ fs') {b : List Str} {r : Str} {s : Nat × Nat} (h : Rc rows fs b r s) : Rc rows' fs' b r s := by
  induction h with
  | nil hf => exact .nil (h2 _ hf)
  | snoc _ hx ih => exact .snoc ih (h1 _ hx)
theorem MW.need {m : Mn} {wd : Wd} (w : MW m wd) {b : List Str} : ∀ {o : Option Int}, MinNeed wd.rows wd.firsts wd.lasts b o → MinNeed m.rows m.firsts m.lasts b o
  | none, h => fun l hl s hs => h l ((w.lasts l).mp hl) s (hs.congr (fun x => (w.rows x).mp) fun x => (w.firsts x).mp)
  | some e, ⟨⟨l, hl, s, h1, h2⟩, h3⟩ => ⟨⟨l, (w.lasts l).mpr hl, s, h1.congr (fun x => (w.rows x).mpr) fun x => (w.firsts x).mpr, h2⟩, fun l hl s hs => h3 l ((w.lasts l).mp hl) s (hs.congr (fun x => (w.rows x).mp) fun x => (w.firsts x).mp)⟩
theorem min_need (rows : List Mnr) (fs ls b : List Str) : ∃ o, MinNeed rows fs ls b o := by
  by_cases h : ∃ l ∈ ls, ∃ s, Rc rows fs b l s
  · have : ∀ k : Nat, (∃ l ∈ ls, ∃ s, Rc rows fs b l s ∧ nds s ≤ k) → ∃ l ∈ ls, ∃ s, Rc rows fs b l s ∧ ∀ l' ∈ ls, ∀ s', Rc rows fs b l' s' → nds s ≤ nds s' := by
      intro k
      induction k with
      | zero => exact fun ⟨l, hl, s, hs, h0⟩ => ⟨l, hl, s, hs, fun _ _ _ _ => by omega⟩
      | succ k ih =>
        rintro ⟨l, hl, s, hs, hk⟩
        by_cases c : ∃ l ∈ ls, ∃ s, Rc rows fs b l s ∧ nds s ≤ k
        · exact ih c
        · exact ⟨l, hl, s, hs, fun l' hl' s' hs' => by
            have : ¬ nds s' ≤ k := fun z => c ⟨l', hl', s', hs', z⟩
            omega⟩
    obtain ⟨l, hl, s, hs⟩ := h
    obtain ⟨l, hl, s, hs, hm⟩ := this (nds s) ⟨l, hl, s, hs, Nat.le_refl _⟩
    exact ⟨some (nds s : Int), ⟨l, hl, s, hs, rfl⟩, fun l' hl' s' hs' => by have := hm l' hl' s' hs'; omega⟩
  · exact ⟨none, fun l hl s hs => h ⟨l, hl, s, hs⟩⟩
theorem off_card (n : Nat) (f : Crd) : offI (cardD n f) = true := by
  unfold cardD
  rw [offI]
  refine offIs_all fun d hd => ?_
  obtain ⟨i, _, rfl⟩ := List.mem_map.mp hd
  unfold rowD
  rw [offI]
  refine offIs_all fun d hd => ?_
  obtain ⟨j, _, rfl⟩ := List.mem_map.mp hd
  rw [offI] <;> simp
theorem kindS_never (a : Wb.Mk) : decide (kindS a = "never") = decide (a = .never) := by cases a <;> decide +kernel
theorem isNon_opt (o : Option Int) : isNonD (optD o) = o.isNone := by cases o <;> rfl
mutual
theorem bk_words (m : Mn) (num : Nat) : ∀ e : Ex, e.wf → ∀ j ∈ bk m num e, IsWord j
  | .job s, w, j, h => by
    rw [bk] at h
    rw [Ex.wf] at w
    rw [List.mem_singleton.mp h]; exact w
  | .row es, w, j, h => by
    rw [bk] at h
    rw [Ex.wf] at w
    exact bks_words m num es w.2 j h
  | .again e, w, j, h => by
    rw [bk] at h
    rw [Ex.wf] at w
    obtain ⟨l, hl, hj⟩ := List.mem_flatten.mp h
    rw [List.eq_of_mem_replicate hl] at hj
    exact bk_words m num e w j hj
theorem bks_words (m : Mn) (num : Nat) : ∀ es : List Ex, Ex.wfs es → ∀ j ∈ bks m num es, IsWord j
  | [], _, j, h => by rw [bks] at h; cases h
  | e :: es, w, j, h => by
    rw [bks] at h
    rw [Ex.wfs] at w
    rcases List.mem_append.mp h with h | h
    · by_cases c : 0 < sz m num e
      · rw [if_pos c] at h; exact bk_words m num e w.1 j h
      · rw [if_neg c] at h; cases h
    · exact bks_words m num es w.2 j h
end
section
variable {X : Cx} {a b c : Expr} {σ : L2.St} {H : Hp} {pos p ap cp q1 q2 : Pos} {n : Nat} {f : Crd}
theorem ev_card {i j : Nat} (hi : i < n) (hj : j < n) (h : Ev X σ H a (cardD n f)) (h1 : Ev X σ H b (.int (i : Int))) (h2 : Ev X σ H c (.int (j : Int))) (hs1 : PlainIx b := by exact fun _ _ => rfl) (hs2 : PlainIx c := by exact fun _ _ => rfl) : Ev X σ H (.Subscript (.Subscript a b q1) c q2) (mkD (f i j)) :=
  ev_ixT (j := j) (ds := (List.range n).map fun j => mkD (f i j)) (by rw [List.getElem?_map, List.getElem?_range hj]; rfl) (ev_ixT (j := i) (d := rowD n (f i)) (ds := (List.range n).map fun i => rowD n (f i)) (by rw [List.getElem?_map, List.getElem?_range hi]; rfl) h h1 hs1) h2 hs2
theorem ev_indexS {l : List Str} {s : Str} {j : Nat} (h : Ev X σ H a (.lst (l.map D.str))) (h2 : Ev X σ H b (.str s)) (hj : l[j]? = some s) (nd : l.Nodup) (hb : attributeBase a "index" X.env (eval a X.env) = eval a X.env := by rfl) (hs : noStar b = true := by rfl) (hl : (ap.endLine == cp.line) = true := by rfl) : Ev X σ H (.Call (.Attribute a "index" ap) [b] [] cp) (.int (j : Int)) := fun H1 e1 Q q => by
  have hst : starEach [b] X.env = [(false, eval b X.env)] := by rw [star_cons hs]; rfl
  refine WE.of (pe_bm PySem.F.plainAttrs_list PySem.F.slot_list_index PySem.F.type_list_index mt_index WE.pe (pa_cons WE.pe pa_nil (star_cons hs)) hb (by rw [hst]; rfl) hl (by rw [hst]; rfl) rfl) (h H1 e1 _ fun v H2 e2 hv => ?_)
  cases hv with
  | @lst t vs _ ht ha =>
    refine ⟨.inl ⟨rfl, _, SqL.of ht⟩, h2 H2 (e1.trans e2) _ fun u H3 e3 hu => ?_⟩
    cases hu
    have ev := isAll_strs ha
    subst ev
    refine ⟨t, l.map V.str, .str s, j, .str s, rfl, rfl, .of (e3 _ _ ht), rfl, flat_strs l, by rw [List.getElem?_map, hj]; rfl, by rw [eqV_str, decide_eq_true rfl], fun i z hi hz => ?_, q _ H3 (e2.trans e3) (.int _)⟩
    rw [List.getElem?_map] at hz
    cases hq : l[i]? with
    | none => rw [hq] at hz; cases hz
    | some x =>
      rw [hq] at hz
      cases hz
      rw [eqV_str]
      refine decide_eq_false fun e => ?_
      subst e
      obtain ⟨i1, i2⟩ := List.getElem?_eq_some_iff.mp hq
      obtain ⟨j1, j2⟩ := List.getElem?_eq_some_iff.mp hj
      exact List.pairwise_iff_getElem.mp nd i j i1 j1 hi (i2.trans j2.symm)
end
end Wb
/-! What the law asks of a writing: the walk. -/
namespace Wb
open PySem PySem.Spec L2
section
variable {P : Program} {w : World} {K : PySem.W.Frag} {mg : Str → Option Value} {base : Heap}
def spWR (K : PySem.W.Frag) : Sp := fun vs H Q _ => ∃ (p : Addr) (n : Nat) (B : Hp) (vm vw ve : V) (m : Mn) (wd : Wd) (e : Ex) (num : Nat), vs = [.ref p, vm, vw, ve, .int (num : Int)] ∧ Stp p n B H ∧ n + 2 ≤ 1000000000 ∧ Is K B vm (.man m) ∧ Is K B vw wd.d ∧ Is K B ve e.d ∧ WfW wd ∧ MW m wd ∧ e.wf ∧ e.dep ≤ 12 ∧ num ≤ 2 ∧ sz m num e ≤ 40 ∧
  ∀ H', Stp p (n + 2) B H' → Q (.bl true) H'
abbrev N_law_written_right : List Str := ["_law_purse_here", "_law_manual_here", "_law_world_here", "_law_expression_here", "_law_number", "_law_book", "_law_rooms_here", "_law_card", "_law_told", "_law_p", "_law_q", "_law_room", "_law_goal", "_law_part"]
theorem kq_written_right (T : Top w K mg) : Kp P w K mg base "_law_written_right" ["_law_purse_here", "_law_manual_here", "_law_world_here", "_law_expression_here", "_law_number"] [] 49 (spWR K) := by
  have hN : N_law_written_right.Nodup := by decide +kernel
  refine kp_of (N := N_law_written_right) T 78 rfl ⟨rfl, rfl, rfl, hN, rfl, by decide +kernel, by decide +kernel⟩ (fun _ _ _ _ _ _ us hl => match us, hl with | [_, _, _, _, _], _ => rfl) (fun vs H Q E ⟨_, _, _, _, _, _, _, _, _, _, h, _⟩ => by rw [h]; rfl) ?_
  rintro cdv A outer sh H vs Q E hr ⟨p, n, B, vm, vw, ve, m, wd, e, num, rfl, st, hn, hm, hw, he, wf, mw, ewf, edp, n2, s40, k⟩
  have WM := mw.wf
  have small := WM.small
  have blen : (bk m num e).length ≤ 40 := by rw [bk_len]; exact s40
  have bw : WfB (bk m num e) := ⟨by omega, bk_words m num e ewf⟩
  have rc := RC_ex (m := m) num e
  refine wss_cons (ws_parW 5 6 hN ?_)
  refine (ev_call (kp_written T) (hr.mono (by decide)) (eva_cons (ev_lst (eva_cons (ev_v 1 hm) eva_nil) (by show 1 ≤ 100000; decide)) (eva_cons (ev_v 3 he) (eva_cons (ev_v 4 (.int (num : Int))) eva_nil))) ⟨m, e, num, WM, ewf, edp, by omega, by omega, rfl, rfl⟩).we st.ext fun v5 H1 e1 i5 => ?_
  have s1 := st.to e1
  refine we_call (kq_law_rooms T) (hr.mono (by decide)) (wa_cons (we_v 2 (wa_nil ⟨vw, wd, rfl, hw.mono s1.ext, wf, fun v6 H2 l e2 nd so me i6 => ?_⟩)))
  have el : l = m.rooms := sorted_eq so mw.so nd WM.nd fun x => by rw [me, mw.mem]
  subst el
  have s2 := s1.to e2
  have i5 := i5.mono e2
  refine wss_cons (ws_parW 7 8 hN ?_)
  refine (ev_call (kp_expression_card T) (hr.mono (by decide)) (eva_cons (ev_v 1 (hm.mono s2.ext)) (eva_cons (ev_v 3 (he.mono s2.ext)) eva_nil)) ⟨m, e, WM, ewf, edp, rfl, rfl⟩).we (Ext.refl H2) fun v7 H3 e3 i7 => ?_
  have s3 := s2.to e3
  have i5 := i5.mono e3
  have i6 := i6.mono e3
  refine (ev_call (kp_card_of T) (hr.mono (by decide)) (eva_cons (ev_v 1 (hm.mono s3.ext)) (eva_cons (ev_v 5 i5) eva_nil)) ⟨m, bk m num e, WM, bw, rfl, rfl⟩).we (Ext.refl H3) fun v8 H4 e4 i8 => ?_
  have s4 := s3.to e4
  have i5 := i5.mono e4
  have i6 := i6.mono e4
  have i7 := i7.mono e4
  refine wss_mid (fun σ' H' => ∃ (x9 x10 : Option V), σ' = [some (.ref p), some vm, some vw, some ve, some (.int (num : Int)), some v5, some v6, some v7, some v8, x9, x10, none, none, none] ∧ Ext H4 H') (ws_forS PassesOwn.never rfl (B := H4) (evs_range (n := m.rooms.length) T.f_range (Ev.is (ev_lenL T.f_len (ev_v 6 i6)) (by rw [List.length_map])) (by omega)) (pgn 9 hN) (fun i σ' H' => ∃ (x9 x10 : Option V), σ' = [some (.ref p), some vm, some vw, some ve, some (.int (num : Int)), some v5, some v6, some v7, some v8, x9, x10, none, none, none] ∧ Ext H4 H') (fun i σ' H' ⟨_, _, _, h⟩ => h) (fun H5 e5 => ⟨none, none, rfl, e5⟩) ?_ ?_) ?_
  · rintro i d σ' H' v9 hd ⟨x9, x10, rfl, eB⟩ hv9
    obtain ⟨i', hi', rfl⟩ := map_get hd
    cases hv9
    have hi : i' < m.rooms.length := List.mem_range.mp (List.mem_of_getElem? hi')
    refine wss_one (ws_forS PassesOwn.never rfl (B := H4) (evs_range (n := m.rooms.length) T.f_range (Ev.is (ev_lenL T.f_len (ev_v 6 (i6.mono eB))) (by rw [List.length_map])) (by omega)) (pgn 10 hN) (fun j σ' H' => ∃ (x10 : Option V), σ' = [some (.ref p), some vm, some vw, some ve, some (.int (num : Int)), some v5, some v6, some v7, some v8, some (.int (i' : Int)), x10, none, none, none] ∧ Ext H4 H') (fun i σ' H' ⟨_, _, h⟩ => h) (fun H5 e5 => ⟨x10, rfl, eB.trans e5⟩) ?_ ?_)
    · rintro j d σ' H' v10 hd ⟨x10, rfl, eB⟩ hv10
      obtain ⟨j', hj', rfl⟩ := map_get hd
      cases hv10
      have hj : j' < m.rooms.length := List.mem_range.mp (List.mem_of_getElem? hj')
      refine wss_one (ws_skip (evt_not (c := true) (evt_val (ev_call (kp__law_marks_right T) (hr.mono (by decide)) (eva_cons (ev_card hi hj (ev_v 7 (i7.mono eB)) (ev_v 9 (.int (i' : Int))) (ev_v 10 (.int (j' : Int)))) (eva_cons (ev_card hi hj (ev_v 8 (i8.mono eB)) (ev_v 9 (.int (i' : Int))) (ev_v 10 (.int (j' : Int)))) eva_nil)) ⟨_, _, rc i' hi j' hj, rfl, rfl⟩))) fun H5 e5 => ⟨_, rfl, eB.trans e5⟩)
    · rintro σ' H' ⟨x10, rfl, eB⟩
      exact ⟨_, x10, rfl, eB⟩
  · rintro σ' H' ⟨x9, x10, rfl, eB⟩
    exact ⟨x9, x10, rfl, eB⟩
  rintro _ H5 ⟨x9, x10, rfl, e5⟩
  have s5 := s4.to e5
  have i5 := i5.mono e5
  have i6 := i6.mono e5
  have i7 := i7.mono e5
  -- the last answer
  obtain ⟨o, ho⟩ := min_need m.rows m.firsts m.lasts (bk m num e)
  have fin : ∀ H6 n6 (x11 x12 x13 : Option V), Stp p n6 (wo H5 p) H6 → n6 ≤ n + 2 → WS (Cd P w K mg base N_law_written_right "_law_written_right" s_law_written_right cdv A outer sh H E) ((defBody s_law_written_right).getD 4 (.Pass ⟨0, 0, 0, 0⟩)) { nx := fun _ H' => Q .non H', rt := Q } [some (.ref p), some vm, some vw, some ve, some (.int (num : Int)), some v5, some v6, some v7, some v8, x9, x10, x11, x12, x13] H6 := by
    intro H6 n6 x11 x12 x13 s6 ln
    have i5 := (s5.is i5 (off_strs _)).mono s6.ext
    have eB6 := s5.up.trans s6.ext
    refine ws_ret (d := .bl true) (Ev.is (ev_eqB (ev_isNone (ev_call (kp_need_of T) (hr.mono (by decide)) (eva_cons (ev_v 1 (hm.mono eB6)) (eva_cons (ev_v 5 i5) eva_nil)) ⟨m, bk m num e, o, WM, bw, fun q1 q2 h0 h1 h2 => served_mono h0 h1 h2, need_min WM ho, rfl, rfl⟩) ev_non) (ev_eqS (ev_call (kp_kind_of T) (hr.mono (by decide)) (eva_cons (ev_v 1 (hm.mono eB6)) (eva_cons (ev_v 3 (he.mono eB6)) eva_nil)) ⟨m, e, WM, ewf, edp, rfl, rfl⟩) ev_str)) ?_) fun v H7 e7 hv => ?_
    · rw [isNon_opt, kindS_never]
      congr 1
      have h1 := (val_need WM ho).1
      have h2 := val_RC (m := m) rc
      cases o with
      | none => rw [decide_eq_true (h2.mpr (h1.mpr rfl))]; rfl
      | some x => rw [decide_eq_false fun z => by have := h1.mp (h2.mp z); cases this]; rfl
    · cases hv
      exact k H7 (((s6.low s5.up).to e7).mono ln)
  refine wss_mid (fun σ' H6 => ∃ (x11 x12 x13 : Option V) (n6 : Nat), σ' = [some (.ref p), some vm, some vw, some ve, some (.int (num : Int)), some v5, some v6, some v7, some v8, x9, x10, x11, x12, x13] ∧ Stp p n6 (wo H5 p) H6 ∧ n6 ≤ n + 2) (ws_if (c := !m.rooms.isEmpty) (evt_neNilS hr.units WM.word (ev_v 6 i6) (ev_lst eva_nil (by decide))) (fun q H6 e6 => ?_) (fun q H6 e6 => wss_nil ⟨none, none, none, n, rfl, s5.base.to e6, by omega⟩)) ?_
  · have rn : m.rooms ≠ [] := fun z => by rw [z] at q; cases q
    have b5 := s5.is i5 (off_strs _)
    have b6 := s5.is i6 (off_strs _)
    have b7 := s5.is i7 (off_card _ _)
    have bm := hm.mono s5.up
    have s6 := s5.base.to e6
    refine wss_cons (ws_parW 11 12 hN ?_)
    refine we_draw (kq_law_one_of T) (hr.mono (by decide)) s6 (by omega) (ev_v 0 (.obj p)) (eva_cons (ev_v 6 b6) eva_nil) (by rw [offIs, off_strs]; rfl) ⟨m.rooms, rn, by omega, rfl⟩ fun v11 H7 d7 q7 s7 i11 => ?_
    obtain ⟨l7, room, e7, m7, rfl⟩ := q7
    cases i11
    have m7 : room ∈ m.rooms := by injection e7 with e7 _; injection e7 with e7; rw [strs_inj e7]; exact m7
    refine we_draw (kq_law_one_of T) (hr.mono (by decide)) s7 (by omega) (ev_v 0 (.obj p)) (eva_cons (ev_v 6 b6) eva_nil) (by rw [offIs, off_strs]; rfl) ⟨m.rooms, rn, by omega, rfl⟩ fun v12 H8 d8 q8 s8 i12 => ?_
    obtain ⟨l8, goal, e8, m8, rfl⟩ := q8
    cases i12
    have m8 : goal ∈ m.rooms := by injection e8 with e8 _; injection e8 with e8; rw [strs_inj e8]; exact m8
    have b5 := b5.mono s8.ext
    have b6 := b6.mono s8.ext
    have b7 := b7.mono s8.ext
    have bm := bm.mono s8.ext
    refine wss_cons (ws_set hN (i := 13) (ev_call (kp_best_part T) (hr.mono (by decide)) (eva_cons (ev_v 1 bm) (eva_cons (ev_v 5 b5) (eva_cons (ev_v 11 (.str room)) (eva_cons (ev_v 12 (.str goal)) eva_nil)))) ⟨m, bk m num e, room, goal, WM, bw, m7, m8, rfl, rfl⟩) fun v13 H9 e9 i13 => ?_)
    have s9 := s8.to e9
    obtain ⟨i, hi, hroom⟩ := List.getElem_of_mem m7
    obtain ⟨j, hj, hgoal⟩ := List.getElem_of_mem m8
    have ati : m.at i = room := by unfold Mn.at; rw [getD_lt hi, hroom]
    have atj : m.at j = goal := by unfold Mn.at; rw [getD_lt hj, hgoal]
    have ac : (ahead m.rows goal (bk m num e) room).isSome = true ↔ exC m e i j ≠ .never := by
      have := ahead_card WM (b := bk m num e) hi hj
      rw [ati, atj] at this
      rw [this]
      exact not_congr (rc i hi j hj).1.symm
    have b5 := b5.mono e9
    have b6 := b6.mono e9
    have b7 := b7.mono e9
    have bm := bm.mono e9
    refine wss_cons (ws_skip (EvT.is (evt_cmp op_ne r2_neB (ev_isNone (ev_v 13 i13) ev_non) (ev_eqS (ev_card hi hj (ev_v 7 b7) (ev_indexS (ev_v 6 b6) (ev_v 11 (.str room)) (by rw [List.getElem?_eq_getElem hi, hroom]) WM.nd) (ev_indexS (ev_v 6 b6) (ev_v 12 (.str goal)) (by rw [List.getElem?_eq_getElem hj, hgoal]) WM.nd)) ev_str)) ?_) fun Ha ea => ?_)
    · have ek : decide (mkS (exC m e i j) = "never") = decide (exC m e i j = .never) := mkS_eq _ .never
      rw [ek]
      unfold partD
      cases hA : ahead m.rows goal (bk m num e) room with
      | none =>
        have : exC m e i j = .never := Classical.byContradiction fun z => by have := ac.mpr z; rw [hA] at this; cases this
        rw [decide_eq_true this]; rfl
      | some mk =>
        have : exC m e i j ≠ .never := ac.mp (by rw [hA]; rfl)
        rw [decide_eq_false this]; rfl
    have i13 := i13.mono ea
    have b5 := b5.mono ea
    have bm := bm.mono ea
    refine wss_one (ws_skip (EvW.t ?_) fun Hb eb => ⟨_, _, _, n + 2, rfl, (s9.to ea).to eb, Nat.le_refl _⟩)
    cases hA : ahead m.rows goal (bk m num e) room with
    | none =>
      have i13 : Is K Ha v13 .non := by unfold partD at i13; rw [hA] at i13; exact i13
      exact EvW.is (evw_and (c := false) (d := false) (EvT.is (evt_notNone (ev_v 13 i13) ev_non) rfl) fun z => by cases z) rfl
    | some mk =>
      have sA : (ahead m.rows goal (bk m num e) room).isSome = true := by rw [hA]; rfl
      have i13 : Is K Ha v13 (.lst ((part m.rows goal (bk m num e) room).map Mnr.d)) := by unfold partD at i13; rw [hA] at i13; exact i13
      refine EvW.is (evw_and (c := true) (d := false) (EvT.is (evt_notNone (ev_v 13 i13) ev_non) rfl) fun _ => evw_and1 (EvW.t (EvW.is (evw_or (c := false) (d := false) (EvT.is (evt_neI (ev_lenL T.f_len (ev_v 13 i13)) (ev_lenL T.f_len (ev_v 5 b5))) ?_) fun _ => evw_or1 (evt_not (c := true) (evt_val (ev_call (kp_is_best_part T) (hr.mono (by decide)) (eva_cons (ev_v 1 bm) (eva_cons (ev_v 5 b5) (eva_cons (ev_v 11 (.str room)) (eva_cons (ev_v 12 (.str goal)) (eva_cons (ev_v 13 i13) eva_nil))))) ⟨m, bk m num e, room, goal, WM, bw, m7, m8, sA, rfl, rfl⟩)))) rfl))) rfl
      rw [List.length_map, List.length_map, part_len _ _ sA, decide_eq_true rfl]; rfl
  rintro _ H6 ⟨x11, x12, x13, n6, rfl, s6, ln⟩
  exact wss_one (fin H6 n6 x11 x12 x13 s6 ln)
end
end Wb
/-! What the law asks of a book that is cut. -/
namespace Wb
open PySem PySem.Spec L2
theorem xok_card {k n : Nat} (f : Crd) (h : n ≤ 1000) : xok (k + 2) (cardD n f) := by
  unfold cardD
  refine ⟨by simpa using h, fun d hd => ?_⟩
  obtain ⟨i, _, rfl⟩ := List.mem_map.mp hd
  unfold rowD
  refine ⟨by simpa using h, fun d hd => ?_⟩
  obtain ⟨j, _, rfl⟩ := List.mem_map.mp hd
  cases k <;> trivial
theorem xok_opt {k : Nat} (o : Option Int) : xok k (optD o) := by cases o <;> cases k <;> trivial
section
variable {X : Cx} {a b : Expr} {σ : L2.St} {H : Hp} {pos : Pos}
theorem ev_neOpt {o : Option Int} (h : Ev X σ H a (optD o)) (h2 : Ev X σ H b (.int 0)) : Ev X σ H (.Compare a [.NotEq] [b] pos) (.bl (!decide (o = some 0))) := by
  cases o with
  | none => exact Ev.is (ev_cmp op_ne r2_neNI h h2) (by rw [decide_eq_false (by simp)]; rfl)
  | some i => exact Ev.is (ev_cmp op_ne r2_neI h h2) (by congr 2; simp)
theorem evt_neOpt {o : Option Int} (h : Ev X σ H a (optD o)) (h2 : Ev X σ H b (.int 0)) : EvT X σ H (.Compare a [.NotEq] [b] pos) (!decide (o = some 0)) := by
  cases o with
  | none => exact EvT.is (evt_cmp op_ne r2_neNI h h2) (by rw [decide_eq_false (by simp)]; rfl)
  | some i => exact EvT.is (evt_cmp op_ne r2_neI h h2) (by congr 1; simp)
end
section
variable {P : Program} {w : World} {K : PySem.W.Frag} {mg : Str → Option Value} {base : Heap}
def spCR (K : PySem.W.Frag) : Sp := fun vs H Q _ => ∃ (p : Addr) (n : Nat) (B : Hp) (vm vw vb : V) (m : Mn) (wd : Wd) (b : List Str), vs = [.ref p, vm, vw, vb] ∧ Stp p n B H ∧ n + 1 ≤ 1000000000 ∧ Is K B vm (.man m) ∧ Is K B vw wd.d ∧ Is K B vb (bookD b) ∧ WfW wd ∧ MW m wd ∧ b.length ≤ 12 ∧ (∀ j ∈ b, IsWord j) ∧
  ∀ H', Stp p (n + 1) B H' → Q (.bl true) H'
abbrev N_law_cut_right : List Str := ["_law_purse_here", "_law_manual_here", "_law_world_here", "_law_book", "_law_at", "_law_card", "_law_value", "_law_need_here"]
theorem kq_cut_right (T : Top w K mg) : Kp P w K mg base "_law_cut_right" ["_law_purse_here", "_law_manual_here", "_law_world_here", "_law_book"] [] 7 (spCR K) := by
  have hN : N_law_cut_right.Nodup := by decide +kernel
  refine kp_of (N := N_law_cut_right) T 79 rfl ⟨rfl, rfl, rfl, hN, rfl, by decide +kernel, by decide +kernel⟩ (fun _ _ _ _ _ _ us hl => match us, hl with | [_, _, _, _], _ => rfl) (fun vs H Q E ⟨_, _, _, _, _, _, _, _, _, h, _⟩ => by rw [h]; rfl) ?_
  rintro cdv A outer sh H vs Q E hr ⟨p, n, B, vm, vw, vb, m, wd, b, rfl, st, hn, hm, hw, hb, wf, mw, bl, bw, k⟩
  have WM := mw.wf
  have small := WM.small
  have st0 := st.base
  have hm := hm.mono st.up
  have hw := hw.mono st.up
  have hb := hb.mono st.up
  refine wss_cons (ws_setW hN (i := 4) (we_draw (kq_law_draw T) (hr.mono (by decide)) st0 (by omega) (ev_v 0 (.obj p)) (eva_cons (ev_add (ev_lenL T.f_len (ev_v 3 hb)) ev_int) eva_nil) rfl ⟨(b.length : Int) + 1, by omega, by omega, by rw [List.length_map]⟩ fun v4 H1 d1 q1 s1 i1 => ?_))
  obtain ⟨mm, j, e1, rfl, lj⟩ := q1
  cases i1
  have lj : j ≤ b.length := by
    injection e1 with e1 _
    injection e1 with e1
    rw [List.length_map] at e1
    omega
  have wb : ∀ c : List Str, (∀ x ∈ c, x ∈ b) → c.length ≤ b.length → WfB c := fun c h1 h2 => ⟨by omega, fun x hx => bw x (h1 x hx)⟩
  have s1e := s1.ext
  refine wss_cons (ws_set hN (i := 5) (ev_call (kp_cards_behind T) (hr.mono (by decide)) (eva_cons (ev_v 1 (hm.mono s1e)) (eva_cons (ev_call (kp_card_of T) (hr.mono (by decide)) (eva_cons (ev_v 1 (hm.mono s1e)) (eva_cons (Ev.is (ev_cutLH (hi := j) (ev_v 3 (hb.mono s1e)) (ev_v 4 (.int (j : Int))) (by rw [List.length_map]; exact lj)) (show _ = bookD (b.take j) by rw [← List.map_take])) eva_nil)) ⟨m, b.take j, WM, wb _ (fun x => List.mem_of_mem_take) (by rw [List.length_take]; omega), rfl, rfl⟩) (eva_cons (ev_call (kp_card_of T) (hr.mono (by decide)) (eva_cons (ev_v 1 (hm.mono s1e)) (eva_cons (Ev.is (ev_cutLT (lo := j) (ev_v 3 (hb.mono s1e)) (ev_v 4 (.int (j : Int))) (by rw [List.length_map]; exact lj)) (show _ = bookD (b.drop j) by rw [← List.map_drop])) eva_nil)) ⟨m, b.drop j, WM, wb _ (fun x => List.mem_of_mem_drop) (by rw [List.length_drop]; omega), rfl, rfl⟩) eva_nil)))
    ⟨m, _, _, by omega, rfl, rfl⟩) fun v5 H2 e2 i5 => ?_)
  have ecard : cardD m.rooms.length (mul m.rooms.length (bookC m (b.take j)) (bookC m (b.drop j))) = cardD m.rooms.length (bookC m b) := by
    have := bookC_append (m := m) (b.take j) (b.drop j)
    rw [List.take_append_drop] at this
    exact cardD_congr this.symm
  rw [ecard] at i5
  have s2 := s1.to e2
  refine wss_cons (ws_parW 6 7 hN ?_)
  refine (ev_call (kp_value_of T) (hr.mono (by decide)) (eva_cons (ev_v 1 (hm.mono s2.ext)) (eva_cons (ev_v 5 i5) eva_nil)) ⟨m, bookC m b, WM, rfl, rfl⟩).we (Ext.refl H2) fun v6 H3 e3 i6 => ?_
  have s3 := s2.to e3
  cases i6
  refine we_call (kq_law_need T) (hr.mono (by decide)) (wa_cons (we_v 2 (wa_cons (we_v 3 (wa_nil ⟨vw, vb, wd, b, rfl, hw.mono s3.ext, wf, hb.mono s3.ext, bl, fun v7 H4 o e4 mn i7 => ?_⟩)))))
  have s4 := s3.to e4
  have i5 := i5.mono (e3.trans e4)
  have ho := mw.need mn
  have vn := val_need WM ho
  have nd := need_min WM ho
  refine wss_cons (ws_skip (evt_not (c := true) (evt_val (ev_call (kq_law_exact T 3) (hr.mono (by decide)) (eva_cons (ev_lst (eva_cons (ev_call (kp_card_of T) (hr.mono (by decide)) (eva_cons (ev_v 1 (hm.mono s4.ext)) (eva_cons (ev_v 3 (hb.mono s4.ext)) eva_nil)) ⟨m, b, WM, wb _ (fun x h => h) (Nat.le_refl _), rfl, rfl⟩) (eva_cons (ev_call (kp_need_of T) (hr.mono (by decide)) (eva_cons (ev_v 1 (hm.mono s4.ext)) (eva_cons (ev_v 3 (hb.mono s4.ext)) eva_nil)) ⟨m, b, o, WM, wb _ (fun x h => h) (Nat.le_refl _), fun q1 q2 h0 h1 h2 => served_mono h0 h1 h2, nd, rfl, rfl⟩) eva_nil)) (by show 2 ≤ 100000; decide)) (eva_cons (ev_lst (eva_cons (ev_v 5 i5) (eva_cons (ev_v 7 i7) eva_nil)) (by show 2 ≤ 100000; decide)) eva_nil))
    ⟨.lst [cardD m.rooms.length (bookC m b), optD o], ⟨by show 2 ≤ 1000; decide, fun d hd => by
      rcases List.mem_cons.mp hd with rfl | hd
      · exact xok_card _ (by omega)
      · rw [List.mem_singleton.mp hd]; exact xok_opt o⟩, rfl, rfl⟩))) fun H5 e5 => ?_)
  have s5 := s4.to e5
  have i7 := i7.mono e5
  have never : decide (mkS (valM m (bookC m b)) = "never") = decide (valM m (bookC m b) = .never) := mkS_eq _ .never
  have free : decide (mkS (valM m (bookC m b)) = "free") = decide (valM m (bookC m b) = .free) := mkS_eq _ .free
  generalize valM m (bookC m b) = va at vn never free
  refine wss_cons (ws_skip (EvW.t (EvW.is (evw_or (c := false) (d := false) (EvT.is (evt_cmp op_ne r2_neB (ev_eqS (ev_v 6 (.str (mkS va))) ev_str) (ev_isNone (ev_v 7 i7) ev_non)) ?_) fun _ => evw_or1 (EvW.t (EvW.is (evw_and (c := decide (va = .free)) (d := !decide (o = some 0)) (EvT.is (evt_eqS (ev_v 6 (.str (mkS va))) ev_str) free) fun _ => evw_and1 (evt_neOpt (ev_v 7 i7) ev_int)) ?_))) rfl)) fun H6 e6 => ?_)
  · rw [never, isNon_opt]
    cases o with
    | none => rw [decide_eq_true (vn.1.mpr rfl)]; rfl
    | some x => rw [decide_eq_false fun z => by have := vn.1.mp z; cases this]; rfl
  · by_cases c : va = .free
    · rw [decide_eq_true c, decide_eq_true (vn.2.1 c)]; rfl
    · rw [decide_eq_false c]; rfl
  refine wss_one (ws_ret (d := .bl true) (Ev.is (ev_or (c := !decide (o = some 0)) (d := decide (va ∈ [Wb.Mk.full, .free])) (ev_neOpt (ev_v 7 (i7.mono e6)) ev_int) fun _ => ev_one (Ev.is (ev_inST (ss := [mkS .full, mkS .free]) (ev_v 6 (.str (mkS va))) (ev_tup (eva_cons ev_str (eva_cons ev_str eva_nil)) (by show 2 ≤ 100000; decide))) (congrArg D.bl (mem_mkS (l := [.full, .free]))))) ?_) fun v H7 e7 hv => ?_)
  · congr 1
    by_cases c : o = some 0
    · rcases vn.2.2 c with h | h <;> rw [h, decide_eq_true c] <;> rfl
    · rw [decide_eq_false c]; rfl
  · cases hv
    exact k H7 (((s5.to e6).to e7).low st.up)
end
end Wb
/-! The purses. -/
namespace Wb
open PySem PySem.Spec L2
section
variable {X : Cx} {a b e : Expr} {σ : L2.St} {H : Hp} {pos p0 : Pos}
def CPowX (i j : Int) : Prop := 0 ≤ j ∧ (Builtin.Int.intBits i : Int) * j ≤ 2 ^ 27
instance (i j : Int) : Decidable (CPowX i j) := inferInstanceAs (Decidable (_ ∧ _))
theorem sqL_ext {K : PySem.W.Frag} {H H' : Hp} {a : Addr} {xs : List V} (h : SqL K H a xs) (e : Ext H H') : SqL K H' a xs := h.elim (fun h => .inl (h.elim (fun h => .inl (e _ _ h)) fun ⟨o, h⟩ => .inr ⟨o, e _ _ h⟩)) fun h => .inr h
theorem op_powX : OpR X (binaryOp .Pow) (rI CPowX fun i j => .int (i ^ j.toNat)) := opI fun _ _ _ _ _ _ _ hc q => PyProof.Rows.pow_int hc.1 hc.2 q
theorem ev_powX {i j : Int} (hc : CPowX i j) (h : Ev X σ H a (.int i)) (h2 : Ev X σ H b (.int j)) : Ev X σ H (.BinOp a .Pow b pos) (.int (i ^ j.toNat)) := ev_bin op_powX (r2_Ii hc) h h2
theorem wt_notCall {Qb : Bool → Hp → Prop} (h : WE X e σ H fun v H1 => ∃ c, v = .bl c ∧ Qb (!c) H1) (he : ∀ whole, isTrue e X.env whole = (do let v ← whole; standAt e.pos; holding [v] (truthy v)) := by intro _; rfl) : WT X (.UnaryOp .Not e pos) σ H Qb :=
  WT.of (pt_not WT.pt) (WT.of (pt_val WE.pe he) h)
end
section
variable {P : Program} {w : World} {K : PySem.W.Frag} {mg : Str → Option Value} {base : Heap}
def spPurse (K : PySem.W.Frag) : Sp := fun vs H Q _ => ∃ (a : Addr) (ns : List Int) (i : Int), vs = [.ref a, .int i] ∧ SqL K H a (ns.map V.int) ∧ 0 ≤ i ∧ i ≤ 10 ∧ ∀ q H', Ext H H' → H q = none → Purse q 0 H' → Q (.ref q) H'
abbrev N_law_purse : List Str := ["_law_script", "_law_at", "_law_seed"]
theorem kq_law_purse (T : Top w K mg) : Kp P w K mg base "_law_purse" ["_law_script", "_law_at"] [] 1 (spPurse K) := by
  have hN : N_law_purse.Nodup := by decide +kernel
  refine kp_of (N := N_law_purse) T 57 rfl ⟨rfl, rfl, rfl, hN, rfl, by decide +kernel, by decide +kernel⟩ (fun _ _ _ _ _ _ us hl => match us, hl with | [_, _], _ => rfl) (fun vs H Q E ⟨_, _, _, h, _⟩ => by rw [h]; rfl) ?_
  rintro cdv A outer sh H vs Q E hr ⟨a, ns, i, rfl, ha, i0, i1, k⟩
  refine wss_cons (ws_setW hN (i := 2) (WE.of (pe_callB (cr_sum rfl) rfl T.f_sum PyProof.Rows.boot_sum WA.pa (by decide) (by decide) (star_cons rfl) rfl) (wa_cons (WE.of (pe_slice sl_list WE.pe (po_some WE.pe) (po_some WE.pe)) (we_v 0 (we_v 1 ⟨i, rfl, (ev_add (ev_v 1 (.int i)) ev_int).we (Ext.refl H) fun v H1 e1 hv => ?_⟩))))))
  cases hv
  refine ⟨i + 1, rfl, a, ns.map V.int, rfl, sqL_ext ha e1, fun t ht => wa_nil ?_⟩
  refine ⟨t, (ns.drop (HT.sIx (ns.map V.int).length 0 (some i))).take (HT.sIx (ns.map V.int).length (ns.map V.int).length (some (i + 1)) - HT.sIx (ns.map V.int).length 0 (some i)), rfl, .of ?_, ?_⟩
  · rw [upd_same]
    unfold cutV
    rw [List.map_take, List.map_drop]
  generalize ((ns.drop (HT.sIx (ns.map V.int).length 0 (some i))).take (HT.sIx (ns.map V.int).length (ns.map V.int).length (some (i + 1)) - HT.sIx (ns.map V.int).length 0 (some i))).sum = sd
  have e2 := e1.trans (Ext.new (o := HO.lst (cutV (ns.map V.int) (some i) (some (i + 1)))) ht)
  generalize upd H1 t (.lst (cutV (ns.map V.int) (some i) (some (i + 1)))) = H2 at e2 ⊢
  have big : (0 : Int) < ((10 : Int) ^ (60 : Int).toNat) ^ (8 : Int).toNat := by decide +kernel
  refine wss_one (ws_retW (we_lst (wa_cons ?_)))
  refine (ev_mod big (ev_intI T.f_int (ev_max2 rfl T.f_max (ev_sub (ev_v 2 (.int sd)) (ev_powX (by decide +kernel) ev_int ev_int)) ev_int)) (ev_powX (by decide +kernel) (ev_powX (by decide +kernel) ev_int ev_int) ev_int)).we (Ext.refl H2) fun v3 H3 e3 i3 => wa_cons ?_
  refine (ev_mod (by decide) (ev_intI T.f_int (ev_v 2 (.int sd))) ev_int).we (Ext.refl H3) fun v4 H4 e4 i4 => wa_cons (we_int (wa_cons (we_v 1 (wa_nil ⟨by show 4 ≤ 100000; decide, fun q hq => ?_⟩))))
  cases i3
  cases i4
  have e5 := (e2.trans e3).trans e4
  exact k q _ (e5.trans (Ext.new hq)) (e5.back hq) ⟨_, _, _, _, upd_same, Int.emod_nonneg _ (by omega), Int.emod_nonneg _ (by decide), Int.emod_lt_of_pos _ (by decide), by decide, by decide, i0, i1⟩
def spPurses (K : PySem.W.Frag) : Sp := fun vs H Q _ => ∃ (a : Addr) (ns : List Int), vs = [.ref a, .int 2] ∧ SqL K H a (ns.map V.int) ∧ ∀ L H' (qs : List Addr), Ext H H' → H' L = some (.lst (qs.map V.ref)) → qs.length ≤ 2 → (∀ q ∈ qs, Purse q 0 H') → Q (.ref L) H'
abbrev N_law_purses : List Str := ["_law_script", "_law_few", "_law_at"]
theorem kq_law_purses (T : Top w K mg) : Kp P w K mg base "_law_purses" ["_law_script", "_law_few"] [] 2 (spPurses K) := by
  have hN : N_law_purses.Nodup := by decide +kernel
  refine kp_of (N := N_law_purses) T 60 rfl ⟨rfl, rfl, rfl, hN, rfl, by decide +kernel, by decide +kernel⟩ (fun _ _ _ _ _ _ us hl => match us, hl with | [_, _], _ => rfl) (fun vs H Q E ⟨_, _, h, _⟩ => by rw [h]; rfl) ?_
  rintro cdv A outer sh H vs Q E hr ⟨a, ns, rfl, ha, k⟩
  refine wss_one (ws_retW (we_lcY (own := [("_law_at", 2)]) (g := gName 2) hN (blkOk_by (by kernel_rfl)) (fun _ _ _ _ _ => pgn 2 hN) ?_))
  have ev : Ev (Cd P w K mg base N_law_purses "_law_purses" s_law_purses cdv A outer sh H E) [some (.ref a), some (.int 2), none] H (match defBody s_law_purses with | [.Return (some (.ListComp _ [⟨_, .Call _ [e] _ _, _, _⟩] _ _)) _] => e | _ => .Constant .none 0 ⟨0, 0, 0, 0⟩) (.int ((max 1 (min 2 ns.length) : Nat) : Int)) := by
    refine Ev.is (ev_max2 rfl T.f_max ev_int (ev_min2 rfl T.f_min (ev_v 1 (.int 2)) (show Ev _ _ _ _ (.int (ns.length : Int)) from fun H1 e1 Q q => WE.of (pe_callB call_len_seq rfl T.f_len PySem.boot_len WA.pa (by decide) (by decide) (star_cons rfl) rfl) (wa_cons (we_v 0 (wa_nil ⟨a, ns.map V.int, rfl, .inl (sqL_ext ha e1), by rw [List.length_map]; exact q _ H1 (Ext.refl _) (.int _)⟩)))))) ?_
    congr 1
    split <;> split <;> omega
  refine wi_range T.f_range (ev.we (Ext.refl H) fun v H1 e1 hv => ?_)
  cases hv
  refine ⟨max 1 (min 2 ns.length), rfl, by omega, fun J y Dl hD => ?_⟩
  have y := y H
  have hDH := e1.back hD
  generalize hN2 : max 1 (min 2 ns.length) = N at y
  have N2 : N ≤ 2 := by omega
  refine ⟨fun i m H' => m = N - i ∧ i ≤ N ∧ Ext H H' ∧ ∃ qs : List Addr, H' Dl = some (.lst (qs.map V.ref)) ∧ qs.length = i ∧ ∀ q ∈ qs, q ≠ Dl ∧ Purse q 0 H', ⟨N, by simp, Nat.zero_le _, e1.trans (Ext.new hD), [], upd_same, rfl, by simp⟩, ?_⟩
  rintro i m H3 ⟨rfl, hle, eB, qs, hq1, hq2, hq3⟩
  by_cases hlt : i < N
  · refine .inr ⟨y.go i H3 eB (by simpa using hlt), fun H' => i + 1 ≤ N ∧ Ext H H' ∧ ∃ qs : List Addr, H' Dl = some (.lst (qs.map V.ref)) ∧ qs.length = i + 1 ∧ ∀ q ∈ qs, q ≠ Dl ∧ Purse q 0 H', fun H' ⟨q1, q2⟩ => ⟨N - (i + 1), by omega, rfl, q1, q2⟩, fun v H4 yy => ?_⟩
    have hd' : ((List.range N).map fun i => D.int (i : Nat))[i]? = some (.int (i : Nat)) := by rw [List.getElem?_map, List.getElem?_range hlt]; rfl
    obtain ⟨rfl, hv⟩ := y.yld i H3 v H4 _ eB hd' yy
    cases hv
    refine ⟨rfl, tYes_of (a := fun _ H4 => bkE _ _ _ _ H4 fun z H5 => ∃ acc, H5 Dl = some (.lst acc) ∧ acc.length < sizeLine ∧ (i + 1 ≤ N ∧ Ext H (upd H5 Dl (.lst (acc ++ [z]))) ∧ ∃ qs : List Addr, upd H5 Dl (.lst (acc ++ [z])) Dl = some (.lst (qs.map V.ref)) ∧ qs.length = i + 1 ∧ ∀ q ∈ qs, q ≠ Dl ∧ Purse q 0 (upd H5 Dl (.lst (acc ++ [z])))) ) ?_⟩
    intro s' H' C cl fp
    refine we_call (kq_law_purse T) (hr.mono (by decide)) (wa_cons (we_v 0 (wa_cons (we_v 2 (wa_nil ⟨a, ns, (i : Int), rfl, sqL_ext ha eB, by omega, by omega, fun q H5 e5 hq pq => ?_⟩)))))
    have hD5 := e5 _ _ hq1
    have qD : q ≠ Dl := fun z => by subst z; rw [hq] at hq1; cases hq1
    have keep : ∀ {x : Addr} {o : HO}, x ≠ Dl → Purse x 0 H5 → Purse x 0 (upd H5 Dl o) := fun {x o} hx ⟨u⟩ => ⟨by obtain ⟨a1, a2, a3, a4, h1, h2⟩ := u; exact ⟨a1, a2, a3, a4, by rw [upd_ne hx]; exact h1, h2⟩⟩
    refine ⟨_, hD5, Nat.lt_of_le_of_lt (by rw [List.length_map]; omega : _ ≤ 2) (by decide), hlt, (eB.trans e5).mut hDH, qs ++ [q], by rw [upd_same, List.map_append]; rfl, by rw [List.length_append, List.length_singleton]; omega, fun x hx => ?_⟩
    rcases List.mem_append.mp hx with hx | hx
    · obtain ⟨x1, x2⟩ := hq3 x hx
      exact ⟨x1, keep x1 (x2.ext e5)⟩
    · rw [List.mem_singleton.mp hx]; exact ⟨qD, keep qD pq⟩
  · have e : i = N := by omega
    subst e
    have stp := y.stop H3 eB
    simp only [List.length_map, List.length_range] at stp
    exact .inl ⟨stp, k Dl H3 qs eB hq1 (by omega) fun q hq => (hq3 q hq).2⟩
end
end Wb
/-! The law. -/
namespace Wb
open PySem PySem.Spec L2
section
variable {P : Program} {w : World} {K : PySem.W.Frag} {mg : Str → Option Value} {base : Heap}
def spLaw (K : PySem.W.Frag) : Sp := fun vs H Q _ => ∃ (a : Addr) (ns : List Int), vs = [.ref a] ∧ SqL K H a (ns.map V.int) ∧ ∀ H', Q (.bl true) H'
abbrev N_law : List Str := ["_law_script", "_law_purse_here", "_law_world_here", "_law_manual_here", "_law_turn", "_law_expression_here", "_law_number"]
theorem isObjs {H : Hp} : ∀ qs : List Addr, IsAll K H (qs.map V.ref) (qs.map Wb.D.obj)
  | [] => .nil
  | q :: qs => .cons (.obj q) (isObjs qs)
theorem law_body (T : Top w K mg) (cdv : Value) (A : Around) (outer : List Env) (sh : Shared) (H : Hp) (a : Addr) (Q : VK) (E : XK) (hr : Room 49 (A.deeper (PyProof.Rows.envOfC "law" (defScope s_law) sh.heap.objs.size (He.ga K "law") cdv))) (ns : List Int) (ha : SqL K H a (ns.map V.int)) (k : ∀ H', Q (.bl true) H') :
    WSs (Cd P w K mg base N_law "law" s_law cdv A outer sh H E) (defBody s_law) { nx := fun _ H' => Q .non H', rt := Q } (start N_law [.ref a]) H := by
  have hN : N_law.Nodup := by decide +kernel
  obtain ⟨C, hC0, hC1⟩ : ∃ C : Nat, 20000000 ≤ C ∧ C ≤ 20000000 := ⟨_, Nat.le_refl _, Nat.le_refl _⟩
  obtain ⟨D, hD0, hD1⟩ : ∃ D : Nat, 3000000 ≤ D ∧ D ≤ 3000000 := ⟨_, Nat.le_refl _, Nat.le_refl _⟩
  refine wss_mid (fun σ' H' => True) (ws_forJ PassesOwn.never (WI.of (pi_list WE.pe) (we_call (kq_law_purses T) (hr.mono (by decide)) (wa_cons (we_v 0 (wa_cons (we_int (wa_nil ⟨a, ns, rfl, ha, fun L H1 qs e1 hL hq2 hqs => ?_⟩))))))) (pgn 1 hN)) (fun σ' H' _ => ?_)
  rotate_left 1
  · exact wss_one (ws_ret (d := .bl true) ev_bl fun v H1 e hv => by cases hv; exact k _)
  have bL : (if L = L then H1 L else none) = some (.lst (qs.map V.ref)) := by rw [if_pos rfl]; exact hL
  refine ⟨L, rfl, ⟨_, .of hL⟩, qs.map Wb.D.obj, fun x => if x = L then H1 L else none, fun i σ' H' => (∃ (x1 x2 x3 x4 x5 x6 : Option V), σ' = [some (.ref a), x1, x2, x3, x4, x5, x6]) ∧ H' L = some (.lst (qs.map V.ref)) ∧ ∀ q ∈ qs, Purse q (i * C) H', ylb_list (.lst bL (isObjs qs)), fun i σ' H' ⟨_, h, _⟩ x o hx => ?_, ⟨⟨none, none, none, none, none, none, rfl⟩, hL, fun q hq => (hqs q hq).mono (by omega)⟩, ?_, ?_⟩
  · by_cases c : x = L
    · subst c
      have hx : (if x = x then H1 x else none) = some o := hx
      rw [if_pos rfl, hL] at hx
      cases hx
      exact h
    · have hx : (if x = L then H1 L else none) = some o := hx
      rw [if_neg c] at hx; cases hx
  · rintro i d σ' H' v hd ⟨⟨x1, x2, x3, x4, x5, x6, rfl⟩, hL', hqs'⟩ hv
    obtain ⟨p, hp, rfl⟩ := map_get hd
    have hi : i < qs.length := (List.getElem?_eq_some_iff.mp hp).1
    have hpm : p ∈ qs := List.mem_of_getElem? hp
    cases hv
    have s0 : Stp p (i * C) (wo H' p) H' := ⟨wo_same, Ext.ofWo, hqs' p hpm⟩
    have hLp : L ≠ p := fun z => by
      subst z
      obtain ⟨px, hpx⟩ := s0.lst
      obtain ⟨c1, c2, c3, c4, h1, _⟩ := s0.pu.at_
      rw [hL'] at h1
      have h1 := Option.some.inj h1
      injection h1 with h1
      cases qs with
      | nil => cases hpm
      | cons q qs => cases h1
    have lim : i * C ≤ C := by have := Nat.mul_le_mul_right C (show i ≤ 1 by omega); rwa [Nat.one_mul] at this
    have sc : (i + 1) * C = i * C + C := Nat.succ_mul i C
    -- what stays for the other purses
    have out : ∀ n H'', Stp p n (wo H' p) H'' → n ≤ (i + 1) * C → H'' L = some (.lst (qs.map V.ref)) ∧ ∀ q ∈ qs, Purse q ((i + 1) * C) H'' := fun n H'' s ln => by
      refine ⟨s.ext _ _ (by rw [wo_ne hLp]; exact hL'), fun q hq => ?_⟩
      by_cases c : q = p
      · subst c; exact s.pu.mono ln
      · obtain ⟨c1, c2, c3, c4, h1, h2, h3, h4, h5, h6, h7⟩ := (hqs' q hq).at_
        exact ⟨c1, c2, c3, c4, s.ext _ _ (by rw [wo_ne c]; exact h1), h2, h3, h4, h5, by omega, h7⟩
    -- the world
    refine wss_cons (ws_setW hN (i := 2) (we_drawA (kq_law_world T) (hr.mono (by decide)) (wa_cons (we_v 1 (wa_cons (we_addI (we_int ⟨1, rfl, we_draw (kq_law_draw T) (hr.mono (by decide)) s0 (by omega) (ev_v 1 (.obj p)) (eva_cons ev_int eva_nil) rfl ⟨3, by decide, by decide, rfl⟩ fun v7 H2 d2 q2 s2 i2 => ?_⟩)))))))
    obtain ⟨m2, r, e2, rfl, lr⟩ := q2
    cases e2
    cases i2
    refine ⟨r, rfl, wa_cons (we_addI (we_int ⟨1, rfl, we_draw (kq_law_draw T) (hr.mono (by decide)) s2 (by omega) (ev_v 1 (.obj p)) (eva_cons ev_int eva_nil) rfl ⟨3, by decide, by decide, rfl⟩ fun v8 H3 d3 q3 s3 i3 => ?_⟩))⟩
    obtain ⟨m3, j, e3, rfl, lj⟩ := q3
    cases e3
    cases i3
    refine ⟨j, rfl, wa_cons (we_int (wa_nil ⟨p, _, wo H' p, _, [.int (1 + (r : Int)), .int (1 + (j : Int)), .int 9], rfl, s3, by omega, .cons (.int _) (.cons (.int _) (.cons (.int _) .nil)), rfl, ⟨1 + r, 1 + j, by omega, by omega, by omega, by omega, by
      have a1 : ((1 + r : Nat) : Int) = 1 + (r : Int) := by omega
      have a2 : ((1 + j : Nat) : Int) = 1 + (j : Int) := by omega
      rw [a1, a2]⟩, fun vw H4 d4 q4 s4 iw => ?_⟩))⟩
    obtain ⟨wd, wf, rfl⟩ := q4
    have iwB := s4.is iw (off_wd wd)
    -- the manual
    refine wss_cons (ws_setW hN (i := 3) (we_call (kq_law_manual T) (hr.mono (by decide)) (wa_cons (we_v 2 (wa_nil ⟨vw, wd, rfl, iw, wf, fun vm H5 m e5 mo im => ?_⟩)))))
    have mw := mw_of wf mo
    have s5 := s4.to e5
    have imB := s5.is im (by rw [offI] <;> simp)
    have iwB := s5.is (iw.mono e5) (off_wd wd)
    have up5 := s5.up
    -- the turns
    refine wss_one (ws_forS PassesOwn.never rfl (B := wo H5 p) (evs_range (n := 6) T.f_range (Ev.is ev_int rfl) (by decide)) (pgn 4 hN) (fun t σ' H'' => (∃ (x4 x5 x6 : Option V), σ' = [some (.ref a), some (.ref p), some vw, some vm, x4, x5, x6]) ∧ Stp p (i * C + 300 + t * D) (wo H5 p) H'') (fun i σ' H' h => h.2.ext) (fun H6 e6 => ⟨⟨x4, x5, x6, rfl⟩, (s5.base.to e6).mono (by omega)⟩) ?_ ?_)
    rotate_left 1
    · rintro σ' H6 ⟨⟨x4, x5, x6, rfl⟩, s6⟩
      simp only [List.length_map, List.length_range] at s6
      exact ⟨⟨_, _, _, x4, x5, x6, rfl⟩, out _ H6 (s6.low up5) (by omega)⟩
    rintro t d σ' H6 v9 hd ⟨⟨x4, x5, x6, rfl⟩, s6⟩ hv9
    have ht : t < 6 := by have := (List.getElem?_eq_some_iff.mp hd).1; simpa using this
    have tb : t * D ≤ 5 * D := Nat.mul_le_mul_right _ (by omega)
    have td : (t + 1) * D = t * D + D := Nat.succ_mul t D
    refine wss_cons (ws_parW 5 6 hN ?_)
    refine we_call (kq_expr T 6) (hr.mono (by decide)) (wa_cons (we_v 1 (wa_cons ?_)))
    refine ((wd_ix (ev_v 2 iwB)).2.2.2).we s6.ext fun vj H7 e7 ij => wa_cons (we_int (wa_cons (we_addI (we_int ⟨1, rfl, ?_⟩))))
    have s7 := s6.to e7
    have ijB := s7.is ij (off_strs _)
    refine we_draw (kq_law_draw T) (hr.mono (by decide)) s7.base (by omega) (ev_v 1 (.obj p)) (eva_cons ev_int eva_nil) rfl ⟨6, by decide, by decide, rfl⟩ fun v8 H8 d8 q8 s8 i8 => ?_
    obtain ⟨m8, z, e8, rfl, lz⟩ := q8
    cases e8
    cases i8
    refine ⟨z, rfl, wa_nil ⟨p, _, wo H7 p, vj, wd.jobs, 2, 1 + z, by
      have a1 : ((1 + z : Nat) : Int) = 1 + (z : Int) := by omega
      rw [a1]; rfl, s8, by show _ + 2 * 10 ^ 6 ≤ _; omega, ijB, wf.rj.j0, wf.rj.j3, wf.rj.jW, by omega, by decide, fun ve H9 e s9 ewf edp ie => ?_⟩⟩
    have ieB : Is K (wo H9 p) ve e.d := ie.mono fun x o h => by
      obtain ⟨b1, b2⟩ := noL_some h
      obtain ⟨px, hpx⟩ := s8.lst
      rw [wo_ne fun z => by subst z; exact b1 _ hpx]; exact b2
    have up9 : Ext (wo H5 p) (wo H9 p) := (s7.up.trans (Ext.refl _)).trans s9.up
    refine we_draw (kq_law_draw T) (hr.mono (by decide)) s9.base (by show _ + 2 * 10 ^ 6 + 1 ≤ _; omega) (ev_v 1 (.obj p)) (eva_cons ev_int eva_nil) rfl ⟨3, by decide, by decide, rfl⟩ fun v10 Ha da qa sa ia => ?_
    obtain ⟨ma, num, ea, rfl, ln⟩ := qa
    cases ea
    cases ia
    have imA := imB.mono up9
    have iwA := iwB.mono up9
    have sa := sa.mono (show _ ≤ i * C + 300 + t * D + 2000010 by show _ + 2 * 10 ^ 6 + 1 ≤ _; omega)
    -- the writing
    refine wss_mid (fun σ' H' => ∃ (x4 : Option V), σ' = [some (.ref a), some (.ref p), some vw, some vm, x4, some ve, some (.int (num : Int))] ∧ Stp p (i * C + 300 + t * D + 2000020) (wo H9 p) H') (ws_if (c := decide ((sz m num e : Int) ≤ 40)) (evt_le (ev_call (kp_written_size T) (hr.mono (by decide)) (eva_cons (ev_lst (eva_cons (ev_v 3 (imA.mono sa.ext)) eva_nil) (by show 1 ≤ 100000; decide)) (eva_cons (ev_v 5 (ieB.mono sa.ext)) (eva_cons (ev_v 6 (.int (num : Int))) eva_nil))) ⟨m, e, num, mw.wf, ewf, by omega, by decide, by omega, rfl, rfl⟩) ev_int) (fun q Hb eb => ?_) (fun q Hb eb => wss_nil ⟨_, rfl, (sa.to eb).mono (by omega)⟩)) ?_
    · have s40 : sz m num e ≤ 40 := by have := of_decide_eq_true q; omega
      have sb := sa.to eb
      refine wss_one (ws_ifW (wt_notCall (we_call (kq_written_right T) hr (wa_cons (we_v 1 (wa_cons (we_v 3 (wa_cons (we_v 2 (wa_cons (we_v 5 (wa_cons (we_v 6 (wa_nil ⟨p, _, wo H9 p, vm, vw, ve, m, wd, e, num, rfl, sb, by omega, imA, iwA, ieB, wf, mw, ewf, by omega, by omega, s40, fun Hc sc => ⟨true, rfl, ?_⟩⟩))))))))))))))
      exact iteF (wss_nil ⟨_, rfl, sc.mono (by omega)⟩)
    rintro _ Hb ⟨x4, rfl, sb⟩
    -- the cut
    refine wss_one (ws_ifW (wt_notCall (we_call (kq_cut_right T) (hr.mono (by decide)) (wa_cons (we_v 1 (wa_cons (we_v 3 (wa_cons (we_v 2 (wa_cons ?_))))))))))
    refine we_draw (kq_law_done_book T) (hr.mono (by decide)) sb (by omega) (ev_v 1 (.obj p)) (eva_cons (ev_v 2 iwA) (eva_cons ev_int eva_nil)) (by rw [offIs, off_wd]; rfl) ⟨wd, wf, rfl⟩ fun vb Hc dc qc sc ic => ?_
    obtain ⟨bs, b12, bw, rfl⟩ := qc
    have icB := sc.is ic (off_strs bs)
    refine wa_nil ⟨p, _, wo Hc p, vm, vw, vb, m, wd, bs, rfl, sc.base, by omega, imA.mono sc.up, iwA.mono sc.up, icB, wf, mw, b12, bw, fun Hd sd => ⟨true, rfl, ?_⟩⟩
    refine iteF (wss_nil ⟨⟨_, _, _, rfl⟩, ((sd.low sc.up).low up9).mono ?_⟩)
    omega
  · rintro σ' H' _
    trivial
end
end Wb
/-! The top's facts, from what the hook tells. -/
namespace Wb
open PySem PySem.Spec PyProof.Rows L2
def isGlo (x : PySem.Str) : He.Fa → Bool
  | .glo y => decide (y = x)
  | _ => false
theorem glo_all : (fnAll.all fun g => g.at_.2.isSome || faAll.any (isGlo g.at_.1)) = true := by decide +kernel
theorem top_of {w : World} {K : PySem.W.Frag} {h : Heap} {mg : PySem.Str → Option Value} (X : K.In h) (G : h.Ns mainGlobals mg) (c : He.SaysT faAll fnAll tabsL w K) (e : exB K = true) : Top w K mg := by
  have d := c.d
  obtain ⟨x1, e⟩ := He.ba e
  obtain ⟨x2, e⟩ := He.ba e
  obtain ⟨x3, e⟩ := He.ba e
  obtain ⟨x4, e⟩ := He.ba e
  obtain ⟨x5, e⟩ := He.ba e
  obtain ⟨x6, e⟩ := He.ba e
  obtain ⟨x7, x8⟩ := He.ba e
  refine {
    dfn := fun i d' h' => d.def_ i h', glo := fun g hg hn => ?_, c_letters := He.str_ok X G (d.fact 107), c_most := He.int_ok X G (d.fact 108), c_longest := He.int_ok X G (d.fact 109), c_marks := He.glo_ok X G (d.fact 110), marks := fun H => He.tupB_ok x1 H, marksK := ?_, c_ranks := He.glo_ok X G (d.fact 111), ranks := fun a => ?_,
    c_man := He.glo_ok X G (d.fact 7), manC := He.cls_ok (d.fact 100), manM := He.mkr_ok (d.fact 101), manA := He.eqO_ok x4, manG := He.eqO_ok x5, manT := of_decide_eq_true x6, manO := of_decide_eq_true x7, manI := of_decide_eq_true x8, manN := fun f hf => ?_,
    f_all := He.free_ok X G (d.fact 81), f_any := He.free_ok X G (d.fact 82), f_bool := He.free_ok X G (d.fact 83), f_dict := He.free_ok X G (d.fact 84), f_enumerate := He.free_ok X G (d.fact 85), f_int := He.free_ok X G (d.fact 86), f_isinstance := He.free_ok X G (d.fact 87), f_len := He.free_ok X G (d.fact 88), f_list := He.free_ok X G (d.fact 89), f_max := He.free_ok X G (d.fact 90), f_min := He.free_ok X G (d.fact 91), f_range := He.free_ok X G (d.fact 92), f_reversed := He.free_ok X G (d.fact 93), f_set := He.free_ok X G (d.fact 94), f_sorted := He.free_ok X G (d.fact 95), f_str := He.free_ok X G (d.fact 96), f_sum := He.free_ok X G (d.fact 97), f_tuple := He.free_ok X G (d.fact 98), f_zip := He.free_ok X G (d.fact 99) }
  · have := List.all_eq_true.mp glo_all g hg
    rw [hn] at this
    obtain ⟨f, hf, hq⟩ := List.any_eq_true.mp (show faAll.any (isGlo g.at_.1) = true from this)
    cases f with
    | glo y =>
      have : y = g.at_.1 := of_decide_eq_true hq
      subst this
      exact He.glo_ok X G (d.facts hf)
    | _ => cases hq
  · unfold marksB at x2
    split at x2
    · rename_i c' _ _ q
      exact ⟨_, q, by rw [of_decide_eq_true x2], rfl⟩
    · cases x2
  · obtain ⟨es, n, D⟩ := c.tab 0
    have key : ∀ (i : Nat) (q : PySem.Str × He.Dv), ranksL[i]? = some q → KDct K w (He.ga K "RANKS") q.1 (q.2.v K) := fun i q hq => by
      obtain ⟨u, u1, u2⟩ := He.valsB_ok x3 (List.mem_of_getElem? hq)
      exact ⟨es, n, u, D.at_, D.lit, u1, u2⟩
    cases a with
    | free => exact key 0 _ rfl
    | some => exact key 1 _ rfl
    | full => exact key 2 _ rfl
    | many => exact key 3 _ rfl
    | never => exact key 4 _ rfl
  · rcases List.mem_cons.mp hf with rfl | hf
    · exact He.noat_ok (d.fact 102)
    rcases List.mem_cons.mp hf with rfl | hf
    · exact He.noat_ok (d.fact 103)
    rcases List.mem_cons.mp hf with rfl | hf
    · exact He.noat_ok (d.fact 104)
    rcases List.mem_cons.mp hf with rfl | hf
    · exact He.noat_ok (d.fact 105)
    rcases List.mem_cons.mp hf with rfl | hf
    · exact He.noat_ok (d.fact 106)
    · cases hf
theorem law_ok {P : Program} {w : World} {K : PySem.W.Frag} {h : Heap} {mg : PySem.Str → Option Value} {f : Addr} (X : K.In h) (G : h.Ns mainGlobals mg) (hfa : mg ("law" : PySem.Str) = some (.ref f)) (c : He.SaysT faAll fnAll tabsL w K) (e : exB K = true) :
    ∃ fd : FuncData, (∀ (s : Shared) (v : Value), BindsTo s fd ⟨[v], []⟩ [("_law_script", v)]) ∧ ∀ base : Heap, K.In base → base.Ns mainGlobals mg → FnOk P w K mg base CX0 50 f fd ["_law_script"] (spLaw K) := by
  have T := top_of X G c e
  obtain ⟨fd, F⟩ := T.dfn 80 _ rfl
  have g := T.glo _ (List.mem_of_getElem? (show fnAll[80]? = some _ from rfl)) rfl
  have e1 := hfa.symm.trans g
  cases e1
  have b := FunD.bindsA (ps := ["_law_script"]) F fun _ _ _ _ _ _ us hl => match us, hl with | [_], _ => rfl
  refine ⟨fd, fun s v => b s [v] rfl, fun base _ _ => ?_⟩
  exact FunD.ok (N := N_law) F ⟨rfl, rfl, rfl, by decide +kernel, rfl, by decide +kernel, by decide +kernel⟩ (fun vs H Q E ⟨_, _, h, _⟩ => by rw [h]; rfl) fun cdv A outer s H vs Q E hr ⟨a, ns, hv, ha, k⟩ => ⟨_, PSs.nox WSs.pss, by
    subst hv
    exact law_body T cdv A outer s H a Q E hr ns ha k⟩
end Wb
set_option maxHeartbeats 0
open PySem PySem.W PySem.Calls PyProof.Rows
theorem PySem.Challenge.cw_withinbooks_k27_whole_cards_of_writings_holds : PySem.Challenge.rw_withinbooks_k27_whole_cards_of_writings.Holds := by
  w_on; o_law
  refine HandSHeadRun.head_any (r := Wb.R) (q := view Wb.R.prog [105]) (H := Wb.hk) (ob := Wb.ob) (M := 7000) (loose := Wb.looseAll) (d := HandSHeadRun.topDef Wb.R.prog 105) (kwd := []) Wb.ob_eq
    (by kernel_rfl) (fun s => by kernel_rfl) Wb.runW (by kernel_rfl) (by kernel_rfl) (by kernel_rfl) (by rfl) (by first | assumption | decide +kernel) (by decide +kernel) ⟨rfl, rfl, rfl, rfl, rfl, by decide +kernel⟩ ?hw ?hc
  case hw => w_witness2
  case hc =>
    refine L2.walk_ofE (l := PySem.Challenge.rw_withinbooks_k27_whole_cards_of_writings) (n := 63) (k := 50) (x := "_law_script") (CX := L2.CX0) rfl (by decide) (by kernel_rfl) ⟨rfl, by decide, by decide⟩ ?F (fun _ _ _ _ z => z)
    intro w mg fa h Y G hmg0
    obtain ⟨K, KX, c, e⟩ := Y
    have hmg : mg ("law" : PySem.Str) = some (.ref fa) := by
      have e : (HandSHeadRun.topDef Wb.R.prog 105).name = ("law" : PySem.Str) := by kernel_rfl
      rw [← e]
      exact hmg0
    obtain ⟨fd, hb, hF⟩ := Wb.law_ok (P := (PySem.Challenge.rw_withinbooks_k27_whole_cards_of_writings).prog) (w := w) KX G hmg c e
    exact ⟨K, fd, Wb.spLaw K, KX, hb, fun H a ns hl _ hS => ⟨a, ns, rfl, hS, fun _ => rfl⟩, hF⟩
