import PyProof.Rows.All
import Wide.All
import OpenK.AllK
import Wide.FinOn
import HandS.ForMost
import HandS.Style
import HandS.Star
import HandS.Zip
import HandS.TupAny
import HandS.TupLen
import HandS.IsInst
import HandS.Conv
import HandS.Sort
import HandS.SortOrd
import HandS.Walk
import KE.KTupSum
import KE.GoesEnum
import KE.KeyNested
import KE.KDictKeyed
import HandS.More
import HandS.Evl
import PySem.Challenge.RW_lotplans_k89_whole_worths_and_ranges
set_option Elab.async false
set_option linter.all false
set_option maxRecDepth 100000
/-! Lot sizes in plain Lean: paths of lots, least costs, plans and their costs. -/
namespace LP

/-! ### sums over an interval -/
def sumF (f : Nat → Int) (a : Nat) : Nat → Int
  | 0 => 0
  | m + 1 => sumF f a m + f (a + m)
theorem sumF_zero (f : Nat → Int) (a : Nat) : sumF f a 0 = 0 := rfl
theorem sumF_succ (f : Nat → Int) (a m : Nat) : sumF f a (m + 1) = sumF f a m + f (a + m) := rfl
theorem sumF_add (f : Nat → Int) (a m : Nat) : ∀ k, sumF f a (m + k) = sumF f a m + sumF f (a + m) k
  | 0 => by simp [sumF]
  | k + 1 => by
    show sumF f a (m + k) + f (a + (m + k)) = sumF f a m + (sumF f (a + m) k + f (a + m + k))
    rw [sumF_add f a m k, Nat.add_assoc a m k]
    omega
theorem sumF_congr {f g : Nat → Int} {a : Nat} : ∀ {m : Nat}, (∀ i, a ≤ i → i < a + m → f i = g i) → sumF f a m = sumF g a m
  | 0, _ => rfl
  | m + 1, h => by
    show sumF f a m + f (a + m) = sumF g a m + g (a + m)
    rw [sumF_congr (m := m) fun i h1 h2 => h i h1 (by omega), h (a + m) (by omega) (by omega)]
theorem sumF_shift (f : Nat → Int) (e a : Nat) : ∀ m, sumF (fun i => f (i + e)) a m = sumF f (a + e) m
  | 0 => rfl
  | m + 1 => by
    show sumF (fun i => f (i + e)) a m + f (a + m + e) = sumF f (a + e) m + f (a + e + m)
    rw [sumF_shift f e a m, show a + m + e = a + e + m by omega]
theorem sumF_first (f : Nat → Int) (a m : Nat) : sumF f a (m + 1) = f a + sumF f (a + 1) m := by
  have h := sumF_add f a 1 m
  rw [Nat.add_comm 1 m] at h
  rw [h]
  show 0 + f (a + 0) + _ = _
  rw [Nat.add_zero]
  omega
theorem sumF_plus (f g : Nat → Int) (a : Nat) : ∀ m, sumF (fun i => f i + g i) a m = sumF f a m + sumF g a m
  | 0 => rfl
  | m + 1 => by
    show sumF (fun i => f i + g i) a m + (f (a + m) + g (a + m)) = sumF f a m + f (a + m) + (sumF g a m + g (a + m))
    rw [sumF_plus f g a m]
    omega
theorem sumF_mul (f : Nat → Int) (x : Int) (a : Nat) : ∀ m, sumF (fun i => f i * x) a m = sumF f a m * x
  | 0 => by simp [sumF]
  | m + 1 => by
    show sumF (fun i => f i * x) a m + f (a + m) * x = (sumF f a m + f (a + m)) * x
    rw [sumF_mul f x a m, Int.add_mul]
theorem sumF_nonneg {f : Nat → Int} {a : Nat} : ∀ {m : Nat}, (∀ i, a ≤ i → i < a + m → 0 ≤ f i) → 0 ≤ sumF f a m
  | 0, _ => Int.le_refl _
  | m + 1, h => by
    have h1 := sumF_nonneg (m := m) fun i h1 h2 => h i h1 (by omega)
    have h2 := h (a + m) (by omega) (by omega)
    show 0 ≤ sumF f a m + f (a + m)
    omega
theorem sumF_const0 {f : Nat → Int} {a : Nat} : ∀ {m : Nat}, (∀ i, a ≤ i → i < a + m → f i = 0) → sumF f a m = 0
  | 0, _ => rfl
  | m + 1, h => by
    show sumF f a m + f (a + m) = 0
    rw [sumF_const0 (m := m) fun i h1 h2 => h i h1 (by omega), h (a + m) (by omega) (by omega)]
    rfl
theorem sumF_zero_all {f : Nat → Int} {a : Nat} : ∀ {m : Nat}, (∀ i, a ≤ i → i < a + m → 0 ≤ f i) → sumF f a m = 0 → ∀ i, a ≤ i → i < a + m → f i = 0
  | 0, _, _, i, h1, h2 => by omega
  | m + 1, h, e, i, h1, h2 => by
    have p1 := sumF_nonneg (f := f) (a := a) (m := m) fun i h1 h2 => h i h1 (by omega)
    have p2 := h (a + m) (by omega) (by omega)
    have e' : sumF f a m + f (a + m) = 0 := e
    by_cases hi : i = a + m
    · subst hi
      omega
    · exact sumF_zero_all (m := m) (fun i h1 h2 => h i h1 (by omega)) (by omega) i h1 (by omega)

def seg (f : Nat → Int) (a b : Nat) : Int := sumF f a (b - a)
theorem seg_self (f : Nat → Int) (a : Nat) : seg f a a = 0 := by
  unfold seg
  rw [Nat.sub_self]
  rfl
theorem seg_split (f : Nat → Int) {a b c : Nat} (h1 : a ≤ b) (h2 : b ≤ c) : seg f a c = seg f a b + seg f b c := by
  unfold seg
  have h := sumF_add f a (b - a) (c - b)
  rw [show b - a + (c - b) = c - a by omega, show a + (b - a) = b by omega] at h
  exact h
theorem seg_nonneg {f : Nat → Int} (h : ∀ i, 0 ≤ f i) (a b : Nat) : 0 ≤ seg f a b := sumF_nonneg fun i _ _ => h i
theorem seg_zero_all {f : Nat → Int} (h : ∀ i, 0 ≤ f i) {a b : Nat} (e : seg f a b = 0) {i : Nat} (h1 : a ≤ i) (h2 : i < b) : f i = 0 :=
  sumF_zero_all (m := b - a) (fun i _ _ => h i) e i h1 (by omega)
theorem seg_shift (f : Nat → Int) (e a b : Nat) : seg (fun i => f (i + e)) a b = seg f (a + e) (b + e) := by
  unfold seg
  rw [sumF_shift, show b + e - (a + e) = b - a by omega]
theorem seg_congr {f g : Nat → Int} {a b : Nat} (h : ∀ i, a ≤ i → i < b → f i = g i) : seg f a b = seg g a b :=
  sumF_congr fun i h1 h2 => h i h1 (by omega)
theorem seg_one (f : Nat → Int) {a b : Nat} (h : a < b) : seg f a b = f a + seg f (a + 1) b := by
  unfold seg
  rw [show b - a = (b - (a + 1)) + 1 by omega, sumF_first]
theorem seg_last (f : Nat → Int) {a b : Nat} (h : a ≤ b) : seg f a (b + 1) = seg f a b + f b := by
  unfold seg
  rw [show b + 1 - a = (b - a) + 1 by omega, sumF_succ, show a + (b - a) = b by omega]

/-! ### problems -/
structure Pb where
  n : Nat
  d : Nat → Int
  s : Nat → Int
  c : Nat → Int
  h : Nat → Int
def Pb.Ok (P : Pb) : Prop := (∀ i, 0 ≤ P.d i) ∧ ∀ i, 0 ≤ P.s i
def kept (P : Pb) (a t : Nat) : Int := P.c a + seg P.h a t
def vari (P : Pb) (a b : Nat) : Int := sumF (fun t => kept P a t * P.d t) a (b - a)
def lot (P : Pb) (a b : Nat) : Int := if seg P.d a b = 0 then 0 else P.s a + vari P a b
def pos (P : Pb) (a b : Nat) : Bool := decide (0 < seg P.d a b)
def tail (P : Pb) (e : Nat) : Pb := ⟨P.n - e, fun i => P.d (i + e), fun i => P.s (i + e), fun i => P.c (i + e), fun i => P.h (i + e)⟩
def free (P : Pb) (t : Nat) : Pb := { P with s := fun i => if i = t then 0 else P.s i }

theorem vari_shift (P : Pb) (e a b : Nat) : vari (tail P e) a b = vari P (a + e) (b + e) := by
  unfold vari
  rw [show b + e - (a + e) = b - a by omega, ← sumF_shift (fun t => kept P (a + e) t * P.d t) e a (b - a)]
  refine sumF_congr fun i _ _ => ?_
  show (P.c (a + e) + seg (fun j => P.h (j + e)) a i) * P.d (i + e) = (P.c (a + e) + seg P.h (a + e) (i + e)) * P.d (i + e)
  rw [seg_shift]
theorem lot_shift (P : Pb) (e a b : Nat) : lot (tail P e) a b = lot P (a + e) (b + e) := by
  unfold lot
  show (if seg (fun i => P.d (i + e)) a b = 0 then 0 else P.s (a + e) + _) = _
  rw [seg_shift, vari_shift]
theorem pos_shift (P : Pb) (e a b : Nat) : pos (tail P e) a b = pos P (a + e) (b + e) := by
  unfold pos
  show decide (0 < seg (fun i => P.d (i + e)) a b) = _
  rw [seg_shift]
theorem vari_free (P : Pb) (t a b : Nat) : vari (free P t) a b = vari P a b := rfl
theorem pos_free (P : Pb) (t a b : Nat) : pos (free P t) a b = pos P a b := rfl
theorem lot_free (P : Pb) {t a : Nat} (h : a ≠ t) (b : Nat) : lot (free P t) a b = lot P a b := by
  unfold lot
  show (if seg P.d a b = 0 then 0 else (if a = t then 0 else P.s a) + vari P a b) = _
  rw [if_neg h]
theorem tail_free (P : Pb) {t e : Nat} (h : t < e) : tail (free P t) e = tail P e := by
  unfold tail free
  have e1 : (fun i => if i + e = t then 0 else P.s (i + e)) = fun i => P.s (i + e) := by
    funext i
    rw [if_neg (by omega)]
  show Pb.mk _ _ _ _ _ = Pb.mk _ _ _ _ _
  rw [e1]
theorem lot_pos {P : Pb} {a b : Nat} (h : pos P a b = true) : lot P a b = P.s a + vari P a b := by
  have h' : 0 < seg P.d a b := of_decide_eq_true h
  unfold lot
  rw [if_neg (by omega)]
theorem lot_neg {P : Pb} (ok : P.Ok) {a b : Nat} (h : pos P a b = false) : seg P.d a b = 0 ∧ lot P a b = 0 := by
  have h' : ¬ 0 < seg P.d a b := of_decide_eq_false h
  have h2 := seg_nonneg ok.1 a b
  have e : seg P.d a b = 0 := by omega
  refine ⟨e, ?_⟩
  unfold lot
  rw [if_pos e]

/-! ### paths -/
/-- from a to b by lots: the starts of the lots with a demand, and the cost -/
inductive Pth (P : Pb) : Nat → Nat → List Nat → Int → Prop
  | nil (a : Nat) : Pth P a a [] 0
  | cons {a e b : Nat} {t : List Nat} {k : Int} : a < e → Pth P e b t k → Pth P a b (if pos P a e = true then a :: t else t) (lot P a e + k)

theorem Pth.le {P : Pb} {a b : Nat} {t : List Nat} {k : Int} (h : Pth P a b t k) : a ≤ b := by
  induction h with
  | nil => exact Nat.le_refl _
  | cons h _ ih => omega
theorem Pth.mem {P : Pb} {a b : Nat} {t : List Nat} {k : Int} (h : Pth P a b t k) : ∀ i ∈ t, a ≤ i ∧ i < b := by
  induction h with
  | nil => intro i hi; cases hi
  | @cons a e b t k h q ih =>
    intro i hi
    have hl := q.le
    split at hi
    · rcases List.mem_cons.mp hi with rfl | hi
      · omega
      · have := ih i hi
        omega
    · have := ih i hi
      omega
theorem Pth.cast {P : Pb} {a b : Nat} {t t' : List Nat} {k k' : Int} (h : Pth P a b t k) (e1 : t = t') (e2 : k = k') : Pth P a b t' k' := by
  subst e1; subst e2; exact h
theorem Pth.append {P : Pb} {a m b : Nat} {t u : List Nat} {k l : Int} (h : Pth P a m t k) (g : Pth P m b u l) : Pth P a b (t ++ u) (k + l) := by
  induction h with
  | nil => exact g.cast rfl (by omega)
  | @cons a e m t k h _ ih =>
    refine (Pth.cons h (ih g)).cast ?_ (by omega)
    split <;> rfl
theorem Pth.one {P : Pb} {a e : Nat} (h : a < e) : Pth P a e (if pos P a e = true then [a] else []) (lot P a e) :=
  (Pth.cons h (Pth.nil e)).cast rfl (by omega)
theorem Pth.snoc {P : Pb} {a m e : Nat} {t : List Nat} {k : Int} (h : Pth P a m t k) (g : m < e) : Pth P a e (t ++ (if pos P m e = true then [m] else [])) (k + lot P m e) :=
  h.append (Pth.one g)
/-- the last lot -/
theorem Pth.last {P : Pb} {a b : Nat} {t : List Nat} {k : Int} (h : Pth P a b t k) (hab : a < b) : ∃ m t1 k1, m < b ∧ Pth P a m t1 k1 ∧ k = k1 + lot P m b ∧ t = t1 ++ (if pos P m b = true then [m] else []) := by
  induction h with
  | nil => omega
  | @cons a e b t k h q ih =>
    have hl := q.le
    by_cases heb : e = b
    · subst heb
      cases q with
      | nil =>
        refine ⟨a, [], 0, h, Pth.nil a, by omega, ?_⟩
        split <;> rfl
      | cons h2 q2 =>
        have := q2.le
        omega
    · obtain ⟨m, t1, k1, hm, g, ek, et⟩ := ih (by omega)
      refine ⟨m, _, _, hm, Pth.cons h g, by omega, ?_⟩
      rw [et]
      split <;> rfl
/-- a path by the lots of another problem, the same where it goes -/
theorem Pth.congr {P P' : Pb} {a b : Nat} {t : List Nat} {k : Int} (h : Pth P a b t k) (hp : ∀ i j, a ≤ i → i < j → j ≤ b → pos P' i j = pos P i j ∧ lot P' i j = lot P i j) : Pth P' a b t k := by
  induction h with
  | nil => exact Pth.nil _
  | @cons a e b t k h q ih =>
    have hl := q.le
    have h1 := hp a e (Nat.le_refl _) h hl
    refine (Pth.cons h (ih fun i j h1 h2 h3 => hp i j (by omega) h2 h3)).cast ?_ ?_
    · rw [h1.1]
    · rw [h1.2]
theorem Pth.shift {P : Pb} {e a b : Nat} {t : List Nat} {k : Int} (h : Pth (tail P e) a b t k) : ∃ t', Pth P (a + e) (b + e) t' k := by
  induction h with
  | nil => exact ⟨[], Pth.nil _⟩
  | @cons a m b t k h _ ih =>
    obtain ⟨t', g⟩ := ih
    exact ⟨_, (Pth.cons (Nat.add_lt_add_right h e) g).cast rfl (by rw [lot_shift])⟩
theorem Pth.unshift' {P : Pb} {e a' b' : Nat} {t : List Nat} {k : Int} (h : Pth P a' b' t k) : ∀ {a b : Nat}, a' = a + e → b' = b + e → ∃ t', Pth (tail P e) a b t' k := by
  induction h with
  | nil =>
    intro a b h1 h2
    obtain rfl : a = b := by omega
    exact ⟨[], Pth.nil _⟩
  | @cons a' m b' t k h _ ih =>
    intro a b h1 h2
    subst h1; subst h2
    obtain ⟨t', g⟩ := ih (a := m - e) (b := b) (by omega) rfl
    exact ⟨_, (Pth.cons (show a < m - e by omega) g).cast rfl (by rw [lot_shift, show m - e + e = m by omega])⟩
theorem Pth.unshift {P : Pb} {e a b : Nat} {t : List Nat} {k : Int} (h : Pth P (a + e) (b + e) t k) : ∃ t', Pth (tail P e) a b t' k := h.unshift' rfl rfl
/-- a path with a lot at p -/
theorem Pth.at {P : Pb} {a b p : Nat} {t : List Nat} {k : Int} (h : Pth P a b t k) (hp : p ∈ t) : ∃ e t1 k1 t2 k2, p < e ∧ pos P p e = true ∧ Pth P a p t1 k1 ∧ Pth P e b t2 k2 ∧ k = k1 + lot P p e + k2 := by
  induction h with
  | nil => cases hp
  | @cons a e b t k h q ih =>
    by_cases hpos : pos P a e = true
    · rw [if_pos hpos] at hp
      rcases List.mem_cons.mp hp with rfl | hp
      · exact ⟨e, [], 0, t, k, h, hpos, Pth.nil _, q, by omega⟩
      · obtain ⟨e', t1, k1, t2, k2, h1, h2, h3, h4, h5⟩ := ih hp
        exact ⟨e', _, _, t2, k2, h1, h2, Pth.cons h h3, h4, by omega⟩
    · rw [if_neg hpos] at hp
      obtain ⟨e', t1, k1, t2, k2, h1, h2, h3, h4, h5⟩ := ih hp
      exact ⟨e', _, _, t2, k2, h1, h2, Pth.cons h h3, h4, by omega⟩

/-! ### least costs -/
/-- the list that stages makes -/
structure IsStages (P : Pb) (m : Nat) (fs : List Int) : Prop where
  len : fs.length = m + 1
  zero : fs.getD 0 0 = 0
  att : ∀ e, 1 ≤ e → e ≤ m → ∃ a, a < e ∧ fs.getD e 0 = fs.getD a 0 + lot P a e
  low : ∀ e, 1 ≤ e → e ≤ m → ∀ a, a < e → fs.getD e 0 ≤ fs.getD a 0 + lot P a e
theorem IsStages.path {P : Pb} {m : Nat} {fs : List Int} (F : IsStages P m fs) : ∀ e, e ≤ m → ∃ t, Pth P 0 e t (fs.getD e 0) := by
  intro e
  induction e using Nat.strongRecOn with
  | ind e ih =>
    intro he
    by_cases h0 : e = 0
    · subst h0
      exact ⟨[], (Pth.nil 0).cast rfl F.zero.symm⟩
    · obtain ⟨a, ha, hv⟩ := F.att e (by omega) he
      obtain ⟨t, g⟩ := ih a ha (by omega)
      exact ⟨_, (g.snoc ha).cast rfl hv.symm⟩
theorem IsStages.least {P : Pb} {m : Nat} {fs : List Int} (F : IsStages P m fs) : ∀ e, e ≤ m → ∀ t k, Pth P 0 e t k → fs.getD e 0 ≤ k := by
  intro e
  induction e using Nat.strongRecOn with
  | ind e ih =>
    intro he t k h
    by_cases h0 : e = 0
    · subst h0
      cases h with
      | nil => exact Int.le_of_eq F.zero
      | cons h1 h2 => have := h2.le; omega
    · obtain ⟨a, t1, k1, ha, g, ek, _⟩ := h.last (by omega)
      have h1 := ih a ha (by omega) t1 k1 g
      have h2 := F.low e (by omega) he a ha
      omega

/-- a lot from a to e keeps away from p -/
def away (P : Pb) (p a e : Nat) : Prop := a ≠ p ∨ seg P.d a e = 0
structure IsWithout (P : Pb) (p m : Nat) (gs : List (Option Int)) : Prop where
  len : gs.length = m + 1
  zero : gs.getD 0 none = some 0
  att : ∀ e, 1 ≤ e → e ≤ m → ∀ x, gs.getD e none = some x → ∃ a y, a < e ∧ gs.getD a none = some y ∧ away P p a e ∧ x = y + lot P a e
  low : ∀ e, 1 ≤ e → e ≤ m → ∀ a y, a < e → gs.getD a none = some y → away P p a e → ∃ x, gs.getD e none = some x ∧ x ≤ y + lot P a e
theorem away_mem {P : Pb} (ok : P.Ok) {p a e : Nat} {t : List Nat} (h : away P p a e) (ht : p ∉ t) : p ∉ t ++ (if pos P a e = true then [a] else []) := by
  intro hp
  rcases List.mem_append.mp hp with hp | hp
  · exact ht hp
  · split at hp
    · rename_i hpos
      have e1 : p = a := by simpa using hp
      have h2 : 0 < seg P.d a e := of_decide_eq_true hpos
      rcases h with h | h
      · exact h e1.symm
      · omega
    · cases hp
theorem IsWithout.path {P : Pb} (ok : P.Ok) {p m : Nat} {gs : List (Option Int)} (G : IsWithout P p m gs) : ∀ e, e ≤ m → ∀ x, gs.getD e none = some x → ∃ t, Pth P 0 e t x ∧ p ∉ t := by
  intro e
  induction e using Nat.strongRecOn with
  | ind e ih =>
    intro he x hx
    by_cases h0 : e = 0
    · subst h0
      rw [G.zero] at hx
      cases hx
      exact ⟨[], Pth.nil 0, by simp⟩
    · obtain ⟨a, y, ha, hy, hw, hv⟩ := G.att e (by omega) he x hx
      obtain ⟨t, g, ht⟩ := ih a ha (by omega) y hy
      exact ⟨_, (g.snoc ha).cast rfl hv.symm, away_mem ok hw ht⟩
theorem IsWithout.least {P : Pb} (ok : P.Ok) {p m : Nat} {gs : List (Option Int)} (G : IsWithout P p m gs) : ∀ e, e ≤ m → ∀ t k, Pth P 0 e t k → p ∉ t → ∃ x, gs.getD e none = some x ∧ x ≤ k := by
  intro e
  induction e using Nat.strongRecOn with
  | ind e ih =>
    intro he t k h ht
    by_cases h0 : e = 0
    · subst h0
      cases h with
      | nil => exact ⟨0, G.zero, Int.le_refl _⟩
      | cons h1 h2 => have := h2.le; omega
    · obtain ⟨a, t1, k1, ha, g, ek, et⟩ := h.last (by omega)
      have ht1 : p ∉ t1 := fun z => ht (by rw [et]; exact List.mem_append_left _ z)
      obtain ⟨y, hy, hyk⟩ := ih a ha (by omega) t1 k1 g ht1
      have hw : away P p a e := by
        by_cases hap : a = p
        · right
          have hn : ¬ pos P a e = true := fun z => ht (by rw [et, if_pos z]; simp [hap])
          exact (lot_neg ok (by simpa using hn)).1
        · exact .inl hap
      obtain ⟨x, hx, hxy⟩ := G.low e (by omega) he a y ha hy hw
      exact ⟨x, hx, by omega⟩

/-- what forced tells: over the ends of the lot at p; tl e: the least cost from e on -/
def fval (P : Pb) (p : Nat) (ahead : Int) (tl : Nat → Int) (e : Nat) : Int := ahead + P.s p + vari P p e + tl e
structure IsForced (P : Pb) (p : Nat) (ahead : Int) (tl : Nat → Int) (hi : Nat) (o : Option Int) : Prop where
  att : ∀ x, o = some x → ∃ e, p < e ∧ e < hi ∧ pos P p e = true ∧ x = fval P p ahead tl e
  low : ∀ e, p < e → e < hi → pos P p e = true → ∃ x, o = some x ∧ x ≤ fval P p ahead tl e
theorem IsForced.init (P : Pb) (p : Nat) (ahead : Int) (tl : Nat → Int) : IsForced P p ahead tl (p + 1) none := ⟨fun x h => (nomatch h), fun e h1 h2 => by omega⟩
theorem IsForced.skip {P : Pb} {p hi : Nat} {ahead : Int} {tl : Nat → Int} {o : Option Int} (F : IsForced P p ahead tl hi o) (h : pos P p hi = false) : IsForced P p ahead tl (hi + 1) o := by
  refine ⟨fun x hx => ?_, fun e h1 h2 h3 => ?_⟩
  · obtain ⟨e, h1, h2, h3⟩ := F.att x hx
    exact ⟨e, h1, by omega, h3⟩
  · by_cases he : e = hi
    · subst he
      rw [h] at h3
      cases h3
    · exact F.low e h1 (by omega) h3
theorem IsForced.first {P : Pb} {p hi : Nat} {ahead : Int} {tl : Nat → Int} (F : IsForced P p ahead tl hi none) (hp : p < hi) (h : pos P p hi = true) : IsForced P p ahead tl (hi + 1) (some (fval P p ahead tl hi)) := by
  refine ⟨fun x hx => ⟨hi, hp, Nat.lt_succ_self _, h, (Option.some.inj hx).symm⟩, fun e h1 h2 h3 => ?_⟩
  by_cases he : e = hi
  · subst he
    exact ⟨_, rfl, Int.le_refl _⟩
  · obtain ⟨x, hx, _⟩ := F.low e h1 (by omega) h3
    cases hx
theorem IsForced.next {P : Pb} {p hi : Nat} {ahead x : Int} {tl : Nat → Int} (F : IsForced P p ahead tl hi (some x)) (hp : p < hi) (h : pos P p hi = true) :
    IsForced P p ahead tl (hi + 1) (some (if fval P p ahead tl hi < x then fval P p ahead tl hi else x)) := by
  refine ⟨fun y hy => ?_, fun e h1 h2 h3 => ?_⟩
  · have hy' := Option.some.inj hy
    by_cases hl : fval P p ahead tl hi < x
    · rw [if_pos hl] at hy'
      exact ⟨hi, hp, Nat.lt_succ_self _, h, hy'.symm⟩
    · rw [if_neg hl] at hy'
      obtain ⟨e, h1, h2, h3⟩ := F.att x rfl
      exact ⟨e, h1, by omega, hy' ▸ h3⟩
  · by_cases he : e = hi
    · subst he
      refine ⟨_, rfl, ?_⟩
      split <;> omega
    · obtain ⟨y, hy, hle⟩ := F.low e h1 (by omega) h3
      cases hy
      refine ⟨_, rfl, ?_⟩
      split <;> omega
/-- what tl is -/
def IsTl (P : Pb) (p : Nat) (tl : Nat → Int) : Prop := tl P.n = 0 ∧ ∀ e, p < e → e < P.n → ∃ fs, IsStages (tail P e) (P.n - e) fs ∧ tl e = fs.getD (P.n - e) 0
theorem IsTl.path {P : Pb} {p : Nat} {tl : Nat → Int} (T : IsTl P p tl) {e : Nat} (h1 : p < e) (h2 : e ≤ P.n) : ∃ t, Pth P e P.n t (tl e) := by
  by_cases he : e = P.n
  · subst he
    exact ⟨[], (Pth.nil _).cast rfl T.1.symm⟩
  · obtain ⟨fs, F, hv⟩ := T.2 e h1 (by omega)
    obtain ⟨t, g⟩ := F.path (P.n - e) (Nat.le_refl _)
    obtain ⟨t', g'⟩ := g.shift
    rw [Nat.zero_add, show P.n - e + e = P.n by omega] at g'
    exact ⟨t', g'.cast rfl hv.symm⟩
theorem IsTl.least {P : Pb} {p : Nat} {tl : Nat → Int} (T : IsTl P p tl) {e : Nat} (h1 : p < e) (h2 : e ≤ P.n) {t : List Nat} {k : Int} (g : Pth P e P.n t k) : tl e ≤ k := by
  by_cases he : e = P.n
  · subst he
    cases g with
    | nil => exact Int.le_of_eq T.1
    | cons h3 h4 => have := h4.le; omega
  · obtain ⟨fs, F, hv⟩ := T.2 e h1 (by omega)
    have g2 : Pth P (0 + e) (P.n - e + e) t k := by
      rw [Nat.zero_add, show P.n - e + e = P.n by omega]
      exact g
    obtain ⟨t', g'⟩ := g2.unshift
    have := F.least (P.n - e) (Nat.le_refl _) t' k g'
    omega

/-- forced over the problem with a free setup at p, told about the problem itself -/
theorem forced_free {P : Pb} (ok : P.Ok) {p : Nat} (hp : p < P.n) {fs : List Int} (F : IsStages (free P p) P.n fs) {tl : Nat → Int} (T : IsTl (free P p) p tl) {o : Option Int}
    (O : IsForced (free P p) p (fs.getD p 0) tl (P.n + 1) o) :
    (∀ x, o = some x → ∃ t, Pth P 0 P.n t (x + P.s p) ∧ p ∈ t) ∧ ∀ t k, Pth P 0 P.n t k → p ∈ t → ∃ x, o = some x ∧ x + P.s p ≤ k := by
  have T' : IsTl P p tl := by
    refine ⟨T.1, fun e h1 h2 => ?_⟩
    obtain ⟨gs, G, hv⟩ := T.2 e h1 h2
    rw [tail_free P h1] at G
    exact ⟨gs, G, hv⟩
  have sp : (free P p).s p = 0 := if_pos rfl
  have fv : ∀ e, fval (free P p) p (fs.getD p 0) tl e = fs.getD p 0 + vari P p e + tl e := fun e => by
    unfold fval
    rw [sp, vari_free]
    omega
  refine ⟨fun x hx => ?_, fun t k h ht => ?_⟩
  · obtain ⟨e, h1, h2, h3, h4⟩ := O.att x hx
    obtain ⟨t1, g1⟩ := F.path p (by omega)
    have g1' : Pth P 0 p t1 (fs.getD p 0) := g1.congr fun i j _ h5 h6 => ⟨rfl, (lot_free P (by omega) j).symm⟩
    obtain ⟨t2, g2⟩ := T'.path h1 (show e ≤ P.n by omega)
    have h3' : pos P p e = true := h3
    have g := g1'.append (Pth.cons h1 g2)
    refine ⟨_, g.cast rfl ?_, ?_⟩
    · rw [lot_pos h3', h4, fv]
      omega
    · rw [if_pos h3']
      exact List.mem_append_right _ List.mem_cons_self
  · obtain ⟨e, t1, k1, t2, k2, h1, h2, g1, g2, ek⟩ := h.at ht
    have he := g2.le
    have g1' : Pth (free P p) 0 p t1 k1 := g1.congr fun i j _ h5 h6 => ⟨rfl, lot_free P (by omega) j⟩
    have a1 := F.least p (by omega) t1 k1 g1'
    have a2 := T'.least h1 he g2
    obtain ⟨x, hx, hle⟩ := O.low e h1 (by omega) h2
    rw [fv] at hle
    rw [lot_pos h2] at ek
    exact ⟨x, hx, by omega⟩

/-! ### plans -/
/-- the amount of the interval plan of told at i -/
def amt (P : Pb) : List Nat → Nat → Int
  | [], _ => 0
  | x :: r, i => if i = x then seg P.d x (r.headD P.n) else amt P r i
theorem amt_out {P : Pb} : ∀ {t : List Nat} {i : Nat}, i ∉ t → amt P t i = 0
  | [], _, _ => rfl
  | x :: r, i, h => by
    have h1 : i ≠ x := fun e => h (by simp [e])
    show (if i = x then _ else amt P r i) = 0
    rw [if_neg h1]
    exact amt_out fun z => h (List.mem_cons_of_mem _ z)
theorem Pth.head {P : Pb} (ok : P.Ok) {e n : Nat} {t : List Nat} {k : Int} (h : Pth P e n t k) : seg P.d e (t.headD n) = 0 ∧ e ≤ t.headD n ∧ t.headD n ≤ n := by
  induction h with
  | nil => exact ⟨seg_self _ _, Nat.le_refl _, Nat.le_refl _⟩
  | @cons a e b t k h q ih =>
    have hl := q.le
    by_cases hpos : pos P a e = true
    · rw [if_pos hpos]
      exact ⟨seg_self _ _, Nat.le_refl _, by show a ≤ b; omega⟩
    · rw [if_neg hpos]
      obtain ⟨i1, i2, i3⟩ := ih
      have z := (lot_neg ok (by simpa using hpos)).1
      refine ⟨?_, by omega, i3⟩
      rw [seg_split P.d (show a ≤ e by omega) i2, z, i1]
      rfl
/-- lots within amounts: seen from a to e -/
theorem lot_sum (P : Pb) (a : Nat) : ∀ m, sumF (fun i => P.h i * seg P.d (i + 1) (a + m)) a m + P.c a * sumF P.d a m = sumF (fun t => kept P a t * P.d t) a m
  | 0 => by simp [sumF]
  | m + 1 => by
    have ih := lot_sum P a m
    have e1 : sumF (fun i => P.h i * seg P.d (i + 1) (a + (m + 1))) a m = sumF (fun i => P.h i * seg P.d (i + 1) (a + m) + P.h i * P.d (a + m)) a m := by
      refine sumF_congr fun i h1 h2 => ?_
      show P.h i * seg P.d (i + 1) (a + m + 1) = P.h i * seg P.d (i + 1) (a + m) + P.h i * P.d (a + m)
      rw [seg_last P.d (show i + 1 ≤ a + m by omega), Int.mul_add]
    rw [sumF_succ, sumF_succ, sumF_succ, e1, sumF_plus, sumF_mul, ← ih]
    show sumF (fun i => P.h i * seg P.d (i + 1) (a + m)) a m + sumF P.h a m * P.d (a + m) + P.h (a + m) * seg P.d (a + m + 1) (a + m + 1) + P.c a * (sumF P.d a m + P.d (a + m))
      = sumF (fun i => P.h i * seg P.d (i + 1) (a + m)) a m + P.c a * sumF P.d a m + (P.c a + seg P.h a (a + m)) * P.d (a + m)
    rw [seg_self, Int.mul_zero, Int.mul_add, Int.add_mul]
    have e2 : seg P.h a (a + m) = sumF P.h a m := by
      unfold seg
      rw [Nat.add_sub_cancel_left]
    rw [e2]
    omega
/-- the stock at the end of i, counted from a -/
def stk (P : Pb) (x : Nat → Int) (a i : Nat) : Int := sumF (fun u => x u - P.d u) a (i + 1 - a)
/-- the cost of period i -/
def step (P : Pb) (x : Nat → Int) (a i : Nat) : Int := P.h i * stk P x a i + P.c i * x i + (if x i > 0 then P.s i else 0)
theorem stk_split (P : Pb) (x : Nat → Int) {a e i : Nat} (h1 : a < e) (h2 : e ≤ i) (h3 : stk P x a (e - 1) = 0) : stk P x a i = stk P x e i := by
  unfold stk at h3 ⊢
  have h := sumF_add (fun u => x u - P.d u) a (e - a) (i + 1 - e)
  rw [show e - a + (i + 1 - e) = i + 1 - a by omega, show a + (e - a) = e by omega] at h
  rw [show e - 1 + 1 - a = e - a by omega] at h3
  rw [h, h3]
  omega
theorem stk_in {P : Pb} {x : Nat → Int} {a e i : Nat} (h1 : a ≤ i) (h2 : i < e) (hx : ∀ u, a < u → u < e → x u = 0) : stk P x a i = x a - seg P.d a (i + 1) := by
  unfold stk seg
  have e1 : ∀ m, m ≤ e - a → 0 < m → sumF (fun u => x u - P.d u) a m = x a - sumF P.d a m := by
    intro m
    induction m with
    | zero => intro _ h; omega
    | succ m ih =>
      intro hm _
      rw [sumF_succ, sumF_succ]
      by_cases h0 : m = 0
      · subst h0
        show 0 + (x (a + 0) - P.d (a + 0)) = x a - (0 + P.d (a + 0))
        rw [Nat.add_zero]
        omega
      · rw [ih (by omega) (by omega)]
        show x a - sumF P.d a m + (x (a + m) - P.d (a + m)) = _
        rw [hx (a + m) (by omega) (by omega)]
        omega
  exact e1 _ (by omega) (by omega)
/-- the plan of a path: its stocks, its sum, its cost -/
theorem Pth.plan {P : Pb} (ok : P.Ok) {a n : Nat} {t : List Nat} {k : Int} (hn : n = P.n) (h : Pth P a n t k) :
    (∀ i, a ≤ i → i < n → 0 ≤ stk P (amt P t) a i) ∧ sumF (fun u => amt P t u - P.d u) a (n - a) = 0 ∧ sumF (fun i => step P (amt P t) a i) a (n - a) = k := by
  induction h with
  | nil a =>
    refine ⟨fun i h1 h2 => by omega, ?_, ?_⟩
    · rw [Nat.sub_self]; rfl
    · rw [Nat.sub_self]; rfl
  | @cons a e b t k h q ih =>
    obtain ⟨i1, i2, i3⟩ := ih hn
    have hl := q.le
    have hm := q.mem
    -- the amounts of the longer plan
    have xe : ∀ u, e ≤ u → amt P (if pos P a e = true then a :: t else t) u = amt P t u := fun u hu => by
      split
      · show (if u = a then _ else amt P t u) = amt P t u
        rw [if_neg (by omega)]
      · rfl
    have xi : ∀ u, a < u → u < e → amt P (if pos P a e = true then a :: t else t) u = 0 := fun u h1 h2 => by
      have hu : amt P t u = 0 := amt_out fun z => by have := hm u z; omega
      split
      · show (if u = a then _ else amt P t u) = 0
        rw [if_neg (by omega)]
        exact hu
      · exact hu
    have xa : amt P (if pos P a e = true then a :: t else t) a = seg P.d a e := by
      by_cases hp : pos P a e = true
      · rw [if_pos hp]
        show (if a = a then seg P.d a (t.headD P.n) else _) = _
        rw [if_pos rfl]
        obtain ⟨j1, j2, _⟩ := q.head ok
        rw [hn] at j1 j2
        rw [seg_split P.d (show a ≤ e by omega) j2, j1]
        omega
      · rw [if_neg hp, amt_out (fun z => by have := hm a z; omega)]
        exact (lot_neg ok (by simpa using hp)).1.symm
    generalize hx : (amt P (if pos P a e = true then a :: t else t)) = x at *
    have st : ∀ i, a ≤ i → i < e → stk P x a i = seg P.d (i + 1) e := fun i h1 h2 => by
      rw [stk_in h1 h2 xi, xa, seg_split P.d (show a ≤ i + 1 by omega) (show i + 1 ≤ e by omega)]
      omega
    have s0 : stk P x a (e - 1) = 0 := by
      rw [st (e - 1) (by omega) (by omega), show e - 1 + 1 = e by omega]
      exact seg_self _ _
    have sx : ∀ i, e ≤ i → stk P x e i = stk P (amt P t) e i := fun i hi => by
      unfold stk
      exact sumF_congr fun u h1 _ => by rw [xe u h1]
    have sg : ∀ i, e ≤ i → stk P x a i = stk P (amt P t) e i := fun i hi => by
      rw [stk_split P x h hi s0, sx i hi]
    refine ⟨fun i h1 h2 => ?_, ?_, ?_⟩
    · by_cases hi : i < e
      · rw [st i h1 hi]
        exact seg_nonneg ok.1 _ _
      · rw [sg i (by omega)]
        exact i1 i (by omega) h2
    · have h1 := sumF_add (fun u => x u - P.d u) a (e - a) (b - e)
      rw [show e - a + (b - e) = b - a by omega, show a + (e - a) = e by omega] at h1
      rw [h1]
      have h2 : sumF (fun u => x u - P.d u) a (e - a) = 0 := by
        have := s0
        unfold stk at this
        rw [show e - 1 + 1 - a = e - a by omega] at this
        exact this
      have h3 : sumF (fun u => x u - P.d u) e (b - e) = sumF (fun u => amt P t u - P.d u) e (b - e) := sumF_congr fun u h1 _ => by rw [xe u h1]
      rw [h2, h3, i2]
      rfl
    · have h1 := sumF_add (fun i => step P x a i) a (e - a) (b - e)
      rw [show e - a + (b - e) = b - a by omega, show a + (e - a) = e by omega] at h1
      rw [h1]
      have h3 : sumF (fun i => step P x a i) e (b - e) = sumF (fun i => step P (amt P t) e i) e (b - e) := sumF_congr fun i h1 _ => by
        unfold step
        rw [sg i h1, xe i h1]
      rw [h3, i3]
      -- the first lot
      have h4 : sumF (fun i => step P x a i) a (e - a) = lot P a e := by
        have hstep : ∀ i, a < i → i < e → step P x a i = P.h i * seg P.d (i + 1) e := fun i h1 h2 => by
          unfold step
          rw [st i (by omega) h2, xi i h1 h2]
          simp
        have hfirst : step P x a a = P.h a * seg P.d (a + 1) e + P.c a * seg P.d a e + (if seg P.d a e > 0 then P.s a else 0) := by
          unfold step
          rw [st a (Nat.le_refl _) h, xa]
        have hsum : sumF (fun i => step P x a i) a (e - a) = sumF (fun i => P.h i * seg P.d (i + 1) e) a (e - a) + (P.c a * seg P.d a e + (if seg P.d a e > 0 then P.s a else 0)) := by
          rw [show e - a = (e - (a + 1)) + 1 by omega, sumF_first, sumF_first, hfirst]
          have : sumF (fun i => step P x a i) (a + 1) (e - (a + 1)) = sumF (fun i => P.h i * seg P.d (i + 1) e) (a + 1) (e - (a + 1)) := sumF_congr fun i h1 h2 => hstep i (by omega) (by omega)
          rw [this]
          omega
        have hl2 := lot_sum P a (e - a)
        rw [show a + (e - a) = e by omega] at hl2
        have hs : seg P.d a e = sumF P.d a (e - a) := rfl
        rw [hsum]
        by_cases hp : pos P a e = true
        · have hp' : 0 < seg P.d a e := of_decide_eq_true hp
          rw [lot_pos hp, if_pos hp', hs]
          unfold vari
          omega
        · obtain ⟨z1, z2⟩ := lot_neg ok (by simpa using hp)
          rw [z2, z1, if_neg (by omega)]
          have : sumF (fun i => P.h i * seg P.d (i + 1) e) a (e - a) = 0 := sumF_const0 fun i h1 h2 => by
            have hz : seg P.d (i + 1) e = 0 := sumF_const0 fun u h3 h4 => seg_zero_all ok.1 z1 (show a ≤ u by omega) (show u < e by omega)
            rw [hz, Int.mul_zero]
          rw [this, Int.mul_zero]
          rfl
      rw [h4]
theorem Pth.amt_pos {P : Pb} (ok : P.Ok) {a n : Nat} {t : List Nat} {k : Int} (hn : n = P.n) (h : Pth P a n t k) : ∀ i, (0 < amt P t i ↔ i ∈ t) ∧ 0 ≤ amt P t i := by
  induction h with
  | nil => intro i; exact ⟨⟨fun z => by simp [amt] at z, fun z => by cases z⟩, Int.le_refl _⟩
  | @cons a e b t k h q ih =>
    intro i
    have hm := q.mem
    by_cases hp : pos P a e = true
    · rw [if_pos hp]
      by_cases hi : i = a
      · subst hi
        obtain ⟨j1, j2, _⟩ := q.head ok
        have hp' : 0 < seg P.d i e := of_decide_eq_true hp
        have ev : amt P (i :: t) i = seg P.d i e := by
          show (if i = i then seg P.d i (t.headD P.n) else _) = _
          rw [if_pos rfl]
          rw [hn] at j1 j2
          rw [seg_split P.d (show i ≤ e by omega) j2, j1]
          omega
        rw [ev]
        exact ⟨⟨fun _ => List.mem_cons_self, fun _ => hp'⟩, by omega⟩
      · have ev : amt P (a :: t) i = amt P t i := by
          show (if i = a then _ else amt P t i) = _
          rw [if_neg hi]
        rw [ev]
        obtain ⟨j1, j2⟩ := ih hn i
        refine ⟨⟨fun z => List.mem_cons_of_mem _ (j1.mp z), fun z => ?_⟩, j2⟩
        rcases List.mem_cons.mp z with z | z
        · exact absurd z hi
        · exact j1.mpr z
    · rw [if_neg hp]
      exact ih hn i
end LP

/-! What the defs compute, as plain functions; that these are the least costs of LpMath. -/
namespace LP
/-- the least of a list -/
def mn : List Int → Int
  | [] => 0
  | x :: r => match r with
    | [] => x
    | _ :: _ => if x ≤ mn r then x else mn r
theorem mn_spec : ∀ {l : List Int}, l ≠ [] → mn l ∈ l ∧ ∀ y ∈ l, mn l ≤ y
  | [x], _ => ⟨List.mem_cons_self, fun y hy => by
    have e : y = x := by simpa using hy
    subst e
    exact Int.le_refl _⟩
  | x :: y :: r, _ => by
    obtain ⟨h1, h2⟩ := mn_spec (l := y :: r) (by simp)
    show (if x ≤ mn (y :: r) then x else mn (y :: r)) ∈ x :: y :: r ∧ ∀ z ∈ x :: y :: r, (if x ≤ mn (y :: r) then x else mn (y :: r)) ≤ z
    split
    · rename_i hx
      refine ⟨List.mem_cons_self, fun z hz => ?_⟩
      rcases List.mem_cons.mp hz with rfl | hz
      · exact Int.le_refl _
      · have := h2 z hz
        omega
    · rename_i hx
      refine ⟨List.mem_cons_of_mem _ h1, fun z hz => ?_⟩
      rcases List.mem_cons.mp hz with rfl | hz
      · omega
      · exact h2 z hz
theorem mn_uniq {l : List Int} {m : Int} (h1 : m ∈ l) (h2 : ∀ y ∈ l, m ≤ y) : m = mn l := by
  obtain ⟨g1, g2⟩ := mn_spec (l := l) (fun z => by rw [z] at h1; cases h1)
  have := g2 m h1
  have := h2 _ g1
  omega
theorem getD_snoc {α : Type} (l : List α) (v d : α) (i : Nat) : (l ++ [v]).getD i d = if i < l.length then l.getD i d else if i = l.length then v else d := by
  rw [List.getD_eq_getElem?_getD, List.getD_eq_getElem?_getD]
  by_cases h : i < l.length
  · rw [if_pos h, List.getElem?_append_left h]
  · rw [if_neg h, List.getElem?_append_right (by omega)]
    by_cases h2 : i = l.length
    · rw [if_pos h2, h2, Nat.sub_self]
      rfl
    · rw [if_neg h2, List.getElem?_eq_none (by show 1 ≤ i - l.length; omega)]
      rfl

/-! ### stages -/
def stgRow (P : Pb) (fs : List Int) (e m : Nat) : List Int := (List.range m).map fun a => fs.getD a 0 + lot P a e
def stg (P : Pb) : Nat → List Int
  | 0 => [0]
  | m + 1 => stg P m ++ [mn (stgRow P (stg P m) (m + 1) (m + 1))]
theorem stg_ok (P : Pb) : ∀ m, IsStages P m (stg P m)
  | 0 => ⟨rfl, rfl, fun e h1 h2 => by omega, fun e h1 h2 => by omega⟩
  | m + 1 => by
    have F := stg_ok P m
    have hl := F.len
    have old : ∀ i, i ≤ m → (stg P (m + 1)).getD i 0 = (stg P m).getD i 0 := fun i hi => by
      show (stg P m ++ [_]).getD i 0 = _
      rw [getD_snoc, if_pos (by omega)]
    have new : (stg P (m + 1)).getD (m + 1) 0 = mn (stgRow P (stg P m) (m + 1) (m + 1)) := by
      show (stg P m ++ [_]).getD (m + 1) 0 = _
      rw [getD_snoc, if_neg (by omega), if_pos (by omega)]
    have hne : stgRow P (stg P m) (m + 1) (m + 1) ≠ [] := fun z => by
      have := congrArg List.length z
      unfold stgRow at this
      rw [List.length_map, List.length_range] at this
      cases this
    obtain ⟨g1, g2⟩ := mn_spec hne
    refine ⟨?_, ?_, fun e h1 h2 => ?_, fun e h1 h2 a ha => ?_⟩
    · show (stg P m ++ [_]).length = m + 1 + 1
      rw [List.length_append, hl]
      rfl
    · rw [old 0 (by omega)]
      exact F.zero
    · by_cases he : e = m + 1
      · subst he
        unfold stgRow at g1
        obtain ⟨a, ha, hv⟩ := List.mem_map.mp g1
        have ha' := List.mem_range.mp ha
        refine ⟨a, ha', ?_⟩
        rw [new, old a (by omega)]
        exact hv.symm
      · obtain ⟨a, ha, hv⟩ := F.att e h1 (by omega)
        refine ⟨a, ha, ?_⟩
        rw [old e (by omega), old a (by omega)]
        exact hv
    · by_cases he : e = m + 1
      · subst he
        rw [new, old a (by omega)]
        exact g2 _ (List.mem_map.mpr ⟨a, List.mem_range.mpr ha, rfl⟩)
      · rw [old e (by omega), old a (by omega)]
        exact F.low e h1 (by omega) a ha
/-- the starts of last lots of the first e periods' least plans -/
def lastOf (P : Pb) (fs : List Int) (e : Nat) : List Nat := (List.range e).filter fun a => decide (fs.getD a 0 + lot P a e = fs.getD e 0)
theorem mem_last {P : Pb} {fs : List Int} {e a : Nat} : a ∈ lastOf P fs e ↔ a < e ∧ fs.getD a 0 + lot P a e = fs.getD e 0 := by
  unfold lastOf
  rw [List.mem_filter, List.mem_range, decide_eq_true_eq]

/-! ### without -/
def woOne (P : Pb) (p : Nat) (gs : List (Option Int)) (e a : Nat) : Option Int :=
  match gs.getD a none with
  | none => none
  | some y => if a ≠ p ∨ seg P.d a e = 0 then some (y + lot P a e) else none
def woFits (P : Pb) (p : Nat) (gs : List (Option Int)) (e m : Nat) : List Int := (List.range m).filterMap (woOne P p gs e)
def woMin (l : List Int) : Option Int := if l = [] then none else some (mn l)
def wo (P : Pb) (p : Nat) : Nat → List (Option Int)
  | 0 => [some 0]
  | m + 1 => wo P p m ++ [woMin (woFits P p (wo P p m) (m + 1) (m + 1))]
theorem woFits_succ (P : Pb) (p : Nat) (gs : List (Option Int)) (e m : Nat) : woFits P p gs e (m + 1) = woFits P p gs e m ++ (woOne P p gs e m).toList := by
  unfold woFits
  rw [List.range_succ, List.filterMap_append]
  cases h : woOne P p gs e m with
  | none => simp [List.filterMap, h]
  | some x => simp [List.filterMap, h]
theorem wo_ok (P : Pb) (p : Nat) : ∀ m, IsWithout P p m (wo P p m)
  | 0 => ⟨rfl, rfl, fun e h1 h2 => by omega, fun e h1 h2 => by omega⟩
  | m + 1 => by
    have G := wo_ok P p m
    have hl := G.len
    have old : ∀ i, i ≤ m → (wo P p (m + 1)).getD i none = (wo P p m).getD i none := fun i hi => by
      show (wo P p m ++ [_]).getD i none = _
      rw [getD_snoc, if_pos (by omega)]
    have new : (wo P p (m + 1)).getD (m + 1) none = woMin (woFits P p (wo P p m) (m + 1) (m + 1)) := by
      show (wo P p m ++ [_]).getD (m + 1) none = _
      rw [getD_snoc, if_neg (by omega), if_pos (by omega)]
    refine ⟨?_, ?_, fun e h1 h2 x hx => ?_, fun e h1 h2 a y ha hy hw => ?_⟩
    · show (wo P p m ++ [_]).length = m + 1 + 1
      rw [List.length_append, hl]
      rfl
    · rw [old 0 (by omega)]
      exact G.zero
    · by_cases he : e = m + 1
      · subst he
        rw [new] at hx
        unfold woMin at hx
        split at hx
        · cases hx
        · rename_i hne
          obtain ⟨g1, _⟩ := mn_spec hne
          have hx' := Option.some.inj hx
          rw [hx'] at g1
          unfold woFits at g1
          obtain ⟨a, ha, hv⟩ := List.mem_filterMap.mp g1
          have ha' := List.mem_range.mp ha
          unfold woOne at hv
          split at hv
          · cases hv
          · rename_i y hy
            split at hv
            · rename_i hw
              refine ⟨a, y, ha', by rw [old a (by omega)]; exact hy, hw, (Option.some.inj hv).symm⟩
            · cases hv
      · rw [old e (by omega)] at hx
        obtain ⟨a, y, ha, hy, hw, hv⟩ := G.att e h1 (by omega) x hx
        exact ⟨a, y, ha, by rw [old a (by omega)]; exact hy, hw, hv⟩
    · by_cases he : e = m + 1
      · subst he
        rw [old a (by omega)] at hy
        have hin : y + lot P a (m + 1) ∈ woFits P p (wo P p m) (m + 1) (m + 1) := by
          unfold woFits
          refine List.mem_filterMap.mpr ⟨a, List.mem_range.mpr ha, ?_⟩
          unfold woOne
          rw [hy]
          show (if a ≠ p ∨ seg P.d a (m + 1) = 0 then some (y + lot P a (m + 1)) else none) = _
          rw [if_pos (show a ≠ p ∨ seg P.d a (m + 1) = 0 from hw)]
        have hne : woFits P p (wo P p m) (m + 1) (m + 1) ≠ [] := fun z => by rw [z] at hin; cases hin
        refine ⟨mn (woFits P p (wo P p m) (m + 1) (m + 1)), ?_, (mn_spec hne).2 _ hin⟩
        rw [new]
        unfold woMin
        rw [if_neg hne]
      · rw [old a (by omega)] at hy
        obtain ⟨x, hx, hle⟩ := G.low e h1 (by omega) a y ha hy hw
        exact ⟨x, by rw [old e (by omega)]; exact hx, hle⟩

/-! ### forced -/
def tlOf (P : Pb) (e : Nat) : Int := if e < P.n then (stg (tail P e) (P.n - e)).getD (P.n - e) 0 else 0
def fcdC (P : Pb) (p e : Nat) : Int := (stg P P.n).getD p 0 + P.s p + vari P p e + tlOf P e
def fcd (P : Pb) (p : Nat) : Nat → Option Int
  | 0 => none
  | k + 1 => if 0 < seg P.d p (p + 1 + k) then
      some (match fcd P p k with
        | none => fcdC P p (p + 1 + k)
        | some b => if fcdC P p (p + 1 + k) < b then fcdC P p (p + 1 + k) else b)
    else fcd P p k
theorem fcd_ok (P : Pb) (p : Nat) : ∀ k, IsForced P p ((stg P P.n).getD p 0) (tlOf P) (p + 1 + k) (fcd P p k)
  | 0 => IsForced.init _ _ _ _
  | k + 1 => by
    have O := fcd_ok P p k
    show IsForced P p _ _ (p + 1 + k + 1) (fcd P p (k + 1))
    unfold fcd
    by_cases h : 0 < seg P.d p (p + 1 + k)
    · rw [if_pos h]
      have hp : pos P p (p + 1 + k) = true := decide_eq_true h
      cases e : fcd P p k with
      | none =>
        rw [e] at O
        exact O.first (by omega) hp
      | some b =>
        rw [e] at O
        exact O.next (by omega) hp
    · rw [if_neg h]
      exact O.skip (decide_eq_false h)
theorem tl_ok (P : Pb) (p : Nat) : IsTl P p (tlOf P) := by
  refine ⟨?_, fun e h1 h2 => ⟨stg (tail P e) (P.n - e), stg_ok _ _, ?_⟩⟩
  · unfold tlOf
    rw [if_neg (by omega)]
  · unfold tlOf
    rw [if_pos h2]

/-! ### what worth and setup_range tell -/
def other (P : Pb) (p : Nat) : Option Int := (wo P p P.n).getD P.n none
def freeOf (P : Pb) (p : Nat) : Option Int := fcd (free P p) p (P.n - p)
def worthOf (P : Pb) (p : Nat) : Option Int :=
  match other P p with
  | none => none
  | some o => match freeOf P p with
    | none => some (-1)
    | some f => if f > o then some (-1) else some (o - f)
theorem other_ok {P : Pb} (ok : P.Ok) (p : Nat) :
    (∀ x, other P p = some x → ∃ t, Pth P 0 P.n t x ∧ p ∉ t) ∧ ∀ t k, Pth P 0 P.n t k → p ∉ t → ∃ x, other P p = some x ∧ x ≤ k :=
  ⟨fun x hx => (wo_ok P p P.n).path ok P.n (Nat.le_refl _) x hx, fun t k h ht => (wo_ok P p P.n).least ok P.n (Nat.le_refl _) t k h ht⟩
theorem free_ok {P : Pb} (ok : P.Ok) {p : Nat} (hp : p < P.n) :
    (∀ x, freeOf P p = some x → ∃ t, Pth P 0 P.n t (x + P.s p) ∧ p ∈ t) ∧ ∀ t k, Pth P 0 P.n t k → p ∈ t → ∃ x, freeOf P p = some x ∧ x + P.s p ≤ k := by
  have O := fcd_ok (free P p) p (P.n - p)
  rw [show p + 1 + (P.n - p) = P.n + 1 by omega] at O
  exact forced_free ok hp (stg_ok (free P p) P.n) (tl_ok (free P p) p) O
end LP

/-! The law in plain Lean: least plans, worths and ranges agree. -/
namespace LP
def leastC (P : Pb) : Int := (stg P P.n).getD P.n 0
/-- told of a least plan -/
def IsOpt (P : Pb) (t : List Nat) : Prop := Pth P 0 P.n t (leastC P)
theorem opt_ex (P : Pb) : ∃ t, IsOpt P t := (stg_ok P P.n).path P.n (Nat.le_refl _)
theorem least_le {P : Pb} {t : List Nat} {k : Int} (h : Pth P 0 P.n t k) : leastC P ≤ k := (stg_ok P P.n).least P.n (Nat.le_refl _) t k h
/-- setup_range of a plan with a cost, with an amount in the period or without -/
def rng (P : Pb) (cost : Int) (has : Bool) (p : Nat) : Option (Int × Option Int) :=
  if has = true then
    match freeOf P p with
    | none => none
    | some f => if cost - P.s p > f then none else
      match other P p with
      | none => some (0, none)
      | some o => if cost - P.s p > o then none else some (0, some (o - (cost - P.s p)))
  else
    match other P p with
    | none => none
    | some o => if cost > o then none else some (match freeOf P p with | none => 0 | some f => if cost - f > 0 then cost - f else 0, none)
theorem opt_in {P : Pb} (ok : P.Ok) {p : Nat} (hp : p < P.n) {t : List Nat} (h : IsOpt P t) (ht : p ∈ t) :
    rng P (leastC P) true p = some (0, worthOf P p) ∧ (∀ w, worthOf P p = some w → P.s p ≤ w) := by
  obtain ⟨f1, f2⟩ := free_ok ok hp
  obtain ⟨o1, o2⟩ := other_ok ok p
  obtain ⟨x, hx, hle⟩ := f2 t _ h ht
  obtain ⟨t2, g2, _⟩ := f1 x hx
  have hx2 : x + P.s p = leastC P := by
    have := least_le g2
    omega
  have hs := ok.2 p
  unfold rng worthOf
  rw [hx, if_pos rfl]
  show (if leastC P - P.s p > x then none else _) = _ ∧ _
  rw [if_neg (by omega)]
  cases ho : other P p with
  | none => exact ⟨rfl, fun w hw => by cases hw⟩
  | some o =>
    obtain ⟨t3, g3, _⟩ := o1 o ho
    have hlo := least_le g3
    show (if leastC P - P.s p > o then none else some ((0 : Int), some (o - (leastC P - P.s p)))) = some (0, if x > o then some (-1) else some (o - x)) ∧ ∀ w, (if x > o then some (-1) else some (o - x)) = some w → P.s p ≤ w
    rw [if_neg (by omega), if_neg (by omega)]
    refine ⟨?_, fun w hw => ?_⟩
    · rw [show leastC P - P.s p = x by omega]
    · have := Option.some.inj hw
      omega
theorem opt_out {P : Pb} (ok : P.Ok) {p : Nat} (hp : p < P.n) {t : List Nat} (h : IsOpt P t) (ht : p ∉ t) :
    ∃ r, rng P (leastC P) false p = some (r, none) ∧ r ≤ P.s p ∧ ∀ w, worthOf P p = some w → 0 ≤ w → r = w := by
  obtain ⟨f1, f2⟩ := free_ok ok hp
  obtain ⟨o1, o2⟩ := other_ok ok p
  obtain ⟨o, ho, hle⟩ := o2 t _ h ht
  obtain ⟨t2, g2, _⟩ := o1 o ho
  have ho2 : o = leastC P := by
    have := least_le g2
    omega
  have hs := ok.2 p
  unfold rng worthOf
  rw [ho, if_neg (by decide)]
  show ∃ r, (if leastC P > o then none else some ((match freeOf P p with | none => (0 : Int) | some f => if leastC P - f > 0 then leastC P - f else 0), none)) = some (r, none) ∧ r ≤ P.s p ∧ ∀ w, (match freeOf P p with | none => some (-1) | some f => if f > o then some (-1) else some (o - f)) = some w → 0 ≤ w → r = w
  rw [if_neg (by omega)]
  cases hf : freeOf P p with
  | none =>
    refine ⟨0, rfl, hs, fun w hw h0 => ?_⟩
    have := Option.some.inj hw
    omega
  | some f =>
    obtain ⟨t3, g3, _⟩ := f1 f hf
    have hlf := least_le g3
    refine ⟨if leastC P - f > 0 then leastC P - f else 0, rfl, ?_, fun w hw h0 => ?_⟩
    · split <;> omega
    · have hw' : (if f > o then some (-1) else some (o - f)) = some w := hw
      split at hw'
      · have := Option.some.inj hw'
        omega
      · have := Option.some.inj hw'
        split <;> omega
/-- some least plan has an amount in the period: by its worth -/
theorem opt_used {P : Pb} (ok : P.Ok) {p : Nat} (hp : p < P.n) : (∃ t, IsOpt P t ∧ p ∈ t) ↔ (∀ w, worthOf P p = some w → P.s p ≤ w) := by
  constructor
  · rintro ⟨t, h, ht⟩
    exact (opt_in ok hp h ht).2
  · intro hw
    obtain ⟨f1, f2⟩ := free_ok ok hp
    obtain ⟨o1, o2⟩ := other_ok ok p
    obtain ⟨t, h⟩ := opt_ex P
    by_cases ht : p ∈ t
    · exact ⟨t, h, ht⟩
    · obtain ⟨o, ho, hle⟩ := o2 t _ h ht
      have hs := ok.2 p
      unfold worthOf at hw
      rw [ho] at hw
      cases hf : freeOf P p with
      | none =>
        rw [hf] at hw
        have := hw (-1) rfl
        omega
      | some f =>
        rw [hf] at hw
        have hw' : ∀ w, (if f > o then some (-1) else some (o - f)) = some w → P.s p ≤ w := hw
        by_cases hfo : f > o
        · rw [if_pos hfo] at hw'
          have := hw' (-1) rfl
          omega
        · rw [if_neg hfo] at hw'
          have h1 := hw' _ rfl
          obtain ⟨t3, g3, ht3⟩ := f1 f hf
          have h2 := least_le g3
          refine ⟨t3, g3.cast rfl ?_, ht3⟩
          omega
end LP

/-! Plans as lists: filled, stocks, costs. -/
namespace LP
abbrev gI (l : List Int) (i : Nat) : Int := l.getD i 0
def planL (P : Pb) (t : List Nat) : List Int := (List.range P.n).map (amt P t)
/-- filled's list behind j turns -/
def fillL (P : Pb) (t : List Nat) (j : Nat) : List Int := (List.range P.n).map fun i => if i ∈ t.take j then amt P t i else 0
theorem gI_map {n : Nat} {f : Nat → Int} {i : Nat} (h : i < n) : gI ((List.range n).map f) i = f i := by
  unfold gI
  rw [List.getD_eq_getElem?_getD, List.getElem?_map, List.getElem?_range h]
  rfl
theorem planL_len (P : Pb) (t : List Nat) : (planL P t).length = P.n := by
  unfold planL
  rw [List.length_map, List.length_range]
theorem fillL_len (P : Pb) (t : List Nat) (j : Nat) : (fillL P t j).length = P.n := by
  unfold fillL
  rw [List.length_map, List.length_range]
theorem gI_plan (P : Pb) (t : List Nat) {i : Nat} (h : i < P.n) : gI (planL P t) i = amt P t i := gI_map h
theorem amt_at (P : Pb) : ∀ {t : List Nat} {j x : Nat}, t.Pairwise (· < ·) → t[j]? = some x → amt P t x = seg P.d x ((t.drop (j + 1)).headD P.n)
  | [], j, x, _, h => by simp at h
  | y :: r, 0, x, _, h => by
    have e : y = x := by simpa using h
    subst e
    show (if y = y then seg P.d y (r.headD P.n) else _) = _
    rw [if_pos rfl]
    rfl
  | y :: r, j + 1, x, hp, h => by
    have h' : r[j]? = some x := by simpa using h
    have hp' := List.pairwise_cons.mp hp
    have hlt := hp'.1 x (List.mem_of_getElem? h')
    show (if x = y then _ else amt P r x) = _
    rw [if_neg (by omega), amt_at P hp'.2 h']
    rfl
theorem take_succ_mem {t : List Nat} {j x i : Nat} (h : t[j]? = some x) : i ∈ t.take (j + 1) ↔ i ∈ t.take j ∨ i = x := by
  rw [List.take_add_one, h]
  show i ∈ t.take j ++ [x] ↔ _
  rw [List.mem_append, List.mem_singleton]
theorem fill_step (P : Pb) {t : List Nat} {j x : Nat} (hp : t.Pairwise (· < ·)) (h : t[j]? = some x) : (fillL P t j).set x (seg P.d x ((t.drop (j + 1)).headD P.n)) = fillL P t (j + 1) := by
  apply List.ext_getElem?
  intro i
  rw [List.getElem?_set]
  unfold fillL
  rw [List.getElem?_map, List.getElem?_map, List.length_map, List.length_range]
  by_cases hi : i < P.n
  · rw [List.getElem?_range hi]
    by_cases hx : x = i
    · subst hx
      rw [if_pos rfl, if_pos hi]
      show some _ = some (if x ∈ t.take (j + 1) then amt P t x else 0)
      rw [if_pos ((take_succ_mem h).mpr (.inr rfl)), amt_at P hp h]
    · rw [if_neg hx]
      show some (if i ∈ t.take j then amt P t i else 0) = some (if i ∈ t.take (j + 1) then amt P t i else 0)
      by_cases hm : i ∈ t.take j
      · rw [if_pos hm, if_pos ((take_succ_mem h).mpr (.inl hm))]
      · rw [if_neg hm, if_neg fun z => ((take_succ_mem h).mp z).elim hm fun e => hx e.symm]
  · rw [List.getElem?_eq_none (show (List.range P.n).length ≤ i by rw [List.length_range]; omega)]
    by_cases hx : x = i
    · rw [if_pos hx, if_neg (by omega)]
      rfl
    · rw [if_neg hx]
      rfl
theorem fill_zero (P : Pb) (t : List Nat) : fillL P t 0 = List.replicate P.n 0 := by
  unfold fillL
  apply List.ext_getElem?
  intro i
  rw [List.getElem?_map, List.getElem?_replicate]
  by_cases hi : i < P.n
  · rw [List.getElem?_range hi, if_pos hi]
    show some (if i ∈ t.take 0 then amt P t i else 0) = some 0
    rw [if_neg (by simp)]
  · rw [List.getElem?_eq_none (show (List.range P.n).length ≤ i by rw [List.length_range]; omega), if_neg hi]
    rfl
theorem fill_end (P : Pb) (t : List Nat) : fillL P t t.length = planL P t := by
  unfold fillL planL
  refine List.map_congr_left fun i _ => ?_
  rw [List.take_length]
  by_cases h : i ∈ t
  · rw [if_pos h]
  · rw [if_neg h, amt_out h]
theorem headD_at {t : List Nat} {j n : Nat} : (t.drop j).headD n = if h : j < t.length then t[j] else n := by
  by_cases h : j < t.length
  · rw [dif_pos h, List.drop_eq_getElem_cons h]
    rfl
  · rw [dif_neg h, List.drop_eq_nil_of_le (by omega)]
    rfl

/-! ### stocks and costs -/
def stkL (n : Nat) (d x : List Int) : List Int := (List.range n).map fun i => sumF (fun u => gI x u - gI d u) 0 (i + 1)
theorem stkL_len (n : Nat) (d x : List Int) : (stkL n d x).length = n := by
  unfold stkL
  rw [List.length_map, List.length_range]
def stepL (P : Pb) (x : List Int) (i : Nat) : Int := P.h i * sumF (fun u => gI x u - P.d u) 0 (i + 1) + P.c i * gI x i + (if gI x i > 0 then P.s i else 0)
def costL (P : Pb) (x : List Int) : Int := sumF (stepL P x) 0 P.n
theorem plan_sum {P : Pb} {t : List Nat} {m : Nat} (h : m ≤ P.n) : sumF (fun u => gI (planL P t) u - P.d u) 0 m = sumF (fun u => amt P t u - P.d u) 0 m :=
  sumF_congr fun i _ h2 => by rw [gI_plan P t (show i < P.n by omega)]
/-- a least plan is a plan, with the least cost -/
theorem plan_ok {P : Pb} (ok : P.Ok) {t : List Nat} {k : Int} (h : Pth P 0 P.n t k) :
    (∀ i, i < P.n → 0 ≤ sumF (fun u => gI (planL P t) u - P.d u) 0 (i + 1)) ∧ sumF (gI (planL P t)) 0 P.n = sumF P.d 0 P.n ∧ costL P (planL P t) = k ∧ ∀ i, i < P.n → (0 < gI (planL P t) i ↔ i ∈ t) ∧ 0 ≤ gI (planL P t) i := by
  obtain ⟨h1, h2, h3⟩ := h.plan ok rfl
  refine ⟨fun i hi => ?_, ?_, ?_, fun i hi => ?_⟩
  · rw [plan_sum (by omega)]
    exact h1 i (Nat.zero_le _) hi
  · have e1 : sumF (fun u => amt P t u - P.d u) 0 P.n = 0 := h2
    rw [← plan_sum (Nat.le_refl _)] at e1
    have e2 : ∀ m, sumF (fun u => gI (planL P t) u - P.d u) 0 m = sumF (gI (planL P t)) 0 m - sumF P.d 0 m := by
      intro m
      induction m with
      | zero => rfl
      | succ m ih =>
        rw [sumF_succ, sumF_succ, sumF_succ, ih]
        omega
    rw [e2] at e1
    omega
  · have e : costL P (planL P t) = sumF (fun i => step P (amt P t) 0 i) 0 P.n := by
      unfold costL
      refine sumF_congr fun i _ hi => ?_
      have hi' : i < P.n := by omega
      unfold stepL step stk
      rw [plan_sum (show i + 1 ≤ P.n by omega), gI_plan P t hi']
      rfl
    rw [e]
    exact h3
  · rw [gI_plan P t hi]
    exact h.amt_pos ok rfl i
theorem Pth.asc {P : Pb} {a b : Nat} {t : List Nat} {k : Int} (h : Pth P a b t k) : t.Pairwise (· < ·) := by
  induction h with
  | nil => exact List.Pairwise.nil
  | @cons a e b t k h q ih =>
    split
    · refine List.pairwise_cons.mpr ⟨fun x hx => ?_, ih⟩
      have := q.mem x hx
      omega
    · exact ih
theorem list_sum (l : List Int) : l.sum = sumF (gI l) 0 l.length := by
  have h : ∀ m, m ≤ l.length → (l.take m).sum = sumF (gI l) 0 m := by
    intro m
    induction m with
    | zero => intro _; rfl
    | succ m ih =>
      intro hm
      rw [List.take_add_one, List.sum_append, ih (by omega), sumF_succ, List.getElem?_eq_getElem (by omega)]
      unfold gI
      rw [Nat.zero_add, List.getD_eq_getElem?_getD, List.getElem?_eq_getElem (show m < l.length by omega)]
      show _ + (l[m] + 0) = _ + l[m]
      omega
  have := h l.length (Nat.le_refl _)
  rw [List.take_length] at this
  exact this
end LP

/-! The search for the least plans, in plain Lean. -/
namespace LP
abbrev Stt := Nat × List Nat
def mor (P : Pb) (e : Nat) (t : List Nat) (a : Nat) : Stt := (a, if pos P a e = true then a :: t else t)
def Os (P : Pb) (s : Stt) : Prop := s.1 ≤ P.n ∧ ∃ k, Pth P s.1 P.n s.2 k ∧ (stg P P.n).getD s.1 0 + k = leastC P
theorem os_init (P : Pb) : Os P (P.n, []) := ⟨Nat.le_refl _, 0, Pth.nil _, by
  show leastC P + 0 = leastC P
  omega⟩
theorem os_step {P : Pb} {s : Stt} {a : Nat} (h : Os P s) (ha : a ∈ lastOf P (stg P P.n) s.1) : Os P (mor P s.1 s.2 a) := by
  obtain ⟨h1, k, q, hk⟩ := h
  obtain ⟨g1, g2⟩ := mem_last.mp ha
  refine ⟨by show a ≤ P.n; omega, _, Pth.cons g1 q, ?_⟩
  show (stg P P.n).getD a 0 + (lot P a s.1 + k) = _
  omega
theorem os_end {P : Pb} {t : List Nat} (h : Os P (0, t)) : IsOpt P t := by
  obtain ⟨_, k, q, hk⟩ := h
  have e : (stg P P.n).getD 0 0 = 0 := (stg_ok P P.n).zero
  have e2 : (stg P P.n).getD 0 0 + k = leastC P := hk
  exact q.cast rfl (by omega)
theorem os_asc {P : Pb} {s : Stt} (h : Os P s) : s.2.Pairwise (· < ·) ∧ ∀ x ∈ s.2, x < P.n := by
  obtain ⟨_, k, q, _⟩ := h
  exact ⟨q.asc, fun x hx => (q.mem x hx).2⟩
theorem opt_asc {P : Pb} {t : List Nat} (h : IsOpt P t) : t.Pairwise (· < ·) ∧ ∀ x ∈ t, x < P.n := by
  have q : Pth P 0 P.n t (leastC P) := h
  exact ⟨q.asc, fun x hx => (q.mem x hx).2⟩
/-! ### how many -/
theorem len_le {α : Type} [DecidableEq α] : ∀ {l m : List α}, l.Nodup → (∀ x ∈ l, x ∈ m) → l.length ≤ m.length
  | [], _, _, _ => Nat.zero_le _
  | x :: r, m, nd, h => by
    have hx := h x List.mem_cons_self
    have nd' := List.nodup_cons.mp nd
    have := len_le (l := r) (m := m.erase x) nd'.2 fun y hy => (List.mem_erase_of_ne (fun z => by subst z; exact nd'.1 hy)).mpr (h y (List.mem_cons_of_mem _ hy))
    rw [List.length_erase_of_mem hx] at this
    have hp : 0 < m.length := List.length_pos_of_mem hx
    rw [List.length_cons]
    omega
def subsA : Nat → Nat → List (List Nat)
  | _, 0 => [[]]
  | a, k + 1 => subsA (a + 1) k ++ (subsA (a + 1) k).map (a :: ·)
theorem subs_len : ∀ k a, (subsA a k).length = 2 ^ k
  | 0, _ => rfl
  | k + 1, a => by
    unfold subsA
    rw [List.length_append, List.length_map, subs_len k, Nat.pow_succ]
    omega
theorem mem_subs : ∀ (k a : Nat) (t : List Nat), t.Pairwise (· < ·) → (∀ x ∈ t, a ≤ x ∧ x < a + k) → t ∈ subsA a k
  | 0, a, t, _, h => by
    cases t with
    | nil => exact List.mem_singleton.mpr rfl
    | cons x r =>
      have := h x List.mem_cons_self
      omega
  | k + 1, a, t, hp, h => by
    unfold subsA
    rw [List.mem_append]
    cases t with
    | nil => exact .inl (mem_subs k (a + 1) [] List.Pairwise.nil fun x hx => nomatch hx)
    | cons x r =>
      have hp' := List.pairwise_cons.mp hp
      have hx := h x List.mem_cons_self
      by_cases hxa : x = a
      · subst hxa
        refine .inr (List.mem_map.mpr ⟨r, mem_subs k (x + 1) r hp'.2 fun y hy => ?_, rfl⟩)
        have h1 := hp'.1 y hy
        have h2 := h y (List.mem_cons_of_mem _ hy)
        omega
      · refine .inl (mem_subs k (a + 1) (x :: r) hp fun y hy => ?_)
        rcases List.mem_cons.mp hy with rfl | hy
        · omega
        · have h1 := hp'.1 y hy
          have h2 := h y (List.mem_cons_of_mem _ hy)
          omega
def allS (P : Pb) : List Stt := (List.range (P.n + 1)).flatMap fun e => (subsA 0 P.n).map fun t => (e, t)
theorem os_all {P : Pb} {s : Stt} (h : Os P s) : s ∈ allS P := by
  obtain ⟨h1, h2⟩ := os_asc h
  refine List.mem_flatMap.mpr ⟨s.1, List.mem_range.mpr (Nat.lt_succ_of_le h.1), List.mem_map.mpr ⟨s.2, mem_subs _ _ _ h1 fun x hx => ?_, rfl⟩⟩
  have := h2 x hx
  omega
/-! ### one turn -/
def pushOne (u : List Stt × List Stt) (x : Stt) : List Stt × List Stt := if x ∈ u.2 then u else (u.1 ++ [x], u.2 ++ [x])
def pushes (P : Pb) (e : Nat) (t : List Nat) (as : List Nat) (u : List Stt × List Stt) : List Stt × List Stt := as.foldl (fun u a => pushOne u (mor P e t a)) u
theorem pushes_snoc (P : Pb) (e : Nat) (t : List Nat) {as : List Nat} {i a : Nat} (h : as[i]? = some a) (u : List Stt × List Stt) : pushes P e t (as.take (i + 1)) u = pushOne (pushes P e t (as.take i) u) (mor P e t a) := by
  unfold pushes
  rw [List.take_add_one, h, List.foldl_append]
  rfl
structure Pu (P : Pb) (e : Nat) (t : List Nat) (as : List Nat) (u v : List Stt × List Stt) : Prop where
  w1 : ∀ s ∈ v.1, s ∈ u.1 ∨ ∃ a ∈ as, s = mor P e t a
  k1 : ∀ s ∈ v.2, s ∈ u.2 ∨ ∃ a ∈ as, s = mor P e t a
  w2 : ∀ s ∈ u.1, s ∈ v.1
  k2 : ∀ s ∈ u.2, s ∈ v.2
  all : ∀ a ∈ as, mor P e t a ∈ v.2
  new : ∀ s ∈ v.2, s ∈ u.2 ∨ s ∈ v.1
  nd : u.2.Nodup → v.2.Nodup
  len : v.1.length + u.2.length = u.1.length + v.2.length
theorem pushes_ok (P : Pb) (e : Nat) (t : List Nat) : ∀ (as : List Nat) (u : List Stt × List Stt), Pu P e t as u (pushes P e t as u)
  | [], u => ⟨fun s h => .inl h, fun s h => .inl h, fun s h => h, fun s h => h, fun a h => (nomatch h), fun s h => .inl h, fun h => h, rfl⟩
  | a :: r, u => by
    have ih := pushes_ok P e t r (pushOne u (mor P e t a))
    show Pu P e t (a :: r) u (pushes P e t r (pushOne u (mor P e t a)))
    generalize pushes P e t r (pushOne u (mor P e t a)) = v at ih ⊢
    by_cases hm : mor P e t a ∈ u.2
    · have e1 : pushOne u (mor P e t a) = u := if_pos hm
      rw [e1] at ih
      exact ⟨fun s h => (ih.w1 s h).imp id fun ⟨b, hb, e⟩ => ⟨b, List.mem_cons_of_mem _ hb, e⟩, fun s h => (ih.k1 s h).imp id fun ⟨b, hb, e⟩ => ⟨b, List.mem_cons_of_mem _ hb, e⟩, ih.w2, ih.k2, fun b hb => by
        rcases List.mem_cons.mp hb with rfl | hb
        · exact ih.k2 _ hm
        · exact ih.all b hb, ih.new, ih.nd, ih.len⟩
    · have e1 : pushOne u (mor P e t a) = (u.1 ++ [mor P e t a], u.2 ++ [mor P e t a]) := if_neg hm
      rw [e1] at ih
      refine ⟨fun s h => ?_, fun s h => ?_, fun s h => ih.w2 s (List.mem_append_left _ h), fun s h => ih.k2 s (List.mem_append_left _ h), fun b hb => ?_, fun s h => ?_, fun nd => ih.nd ?_, ?_⟩
      · rcases ih.w1 s h with h | ⟨b, hb, e⟩
        · rcases List.mem_append.mp h with h | h
          · exact .inl h
          · exact .inr ⟨a, List.mem_cons_self, List.mem_singleton.mp h⟩
        · exact .inr ⟨b, List.mem_cons_of_mem _ hb, e⟩
      · rcases ih.k1 s h with h | ⟨b, hb, e⟩
        · rcases List.mem_append.mp h with h | h
          · exact .inl h
          · exact .inr ⟨a, List.mem_cons_self, List.mem_singleton.mp h⟩
        · exact .inr ⟨b, List.mem_cons_of_mem _ hb, e⟩
      · rcases List.mem_cons.mp hb with rfl | hb
        · exact ih.k2 _ (List.mem_append_right _ (List.mem_singleton.mpr rfl))
        · exact ih.all b hb
      · rcases ih.new s h with h | h
        · rcases List.mem_append.mp h with h | h
          · exact .inl h
          · exact .inr (ih.w2 s (List.mem_append_right _ h))
        · exact .inr h
      · show (u.2 ++ [mor P e t a]).Nodup
        rw [List.nodup_append]
        refine ⟨nd, by simp, fun x hx y hy => ?_⟩
        have e : y = mor P e t a := by simpa using hy
        subst e
        exact fun z => hm (z ▸ hx)
      · have := ih.len
        rw [List.length_append, List.length_append] at this
        have h1 : [mor P e t a].length = 1 := rfl
        omega
/-! ### what holds at each turn -/
structure DInv (P : Pb) (sw ks : List Stt) (fd : List (List Int)) : Prop where
  osw : ∀ s ∈ sw, Os P s
  ock : ∀ s ∈ ks, Os P s
  nd : ks.Nodup
  clo : ∀ s : Stt, s = (P.n, []) ∨ s ∈ ks → s ∈ sw ∨ ((s.1 = 0 → planL P s.2 ∈ fd) ∧ (s.1 ≠ 0 → ∀ a ∈ lastOf P (stg P P.n) s.1, mor P s.1 s.2 a ∈ ks))
  ofd : ∀ x ∈ fd, ∃ t, IsOpt P t ∧ planL P t = x
  nfd : fd.Nodup
def meas (P : Pb) (sw ks : List Stt) : Nat := 2 * ((allS P).length - ks.length) + sw.length
theorem dinv_init (P : Pb) : DInv P [(P.n, [])] [] [] := by
  refine ⟨fun s h => ?_, fun s h => ?_, List.nodup_nil, fun s h => ?_, fun x h => ?_, List.nodup_nil⟩
  · rw [List.mem_singleton.mp h]
    exact os_init P
  · cases h
  · rcases h with h | h
    · exact .inl (List.mem_singleton.mpr h)
    · cases h
  · cases h
def putP (fd : List (List Int)) (x : List Int) : List (List Int) := if x ∈ fd then fd else fd ++ [x]
theorem mem_putP {fd : List (List Int)} {x y : List Int} : y ∈ putP fd x ↔ y ∈ fd ∨ y = x := by
  unfold putP
  by_cases h : x ∈ fd
  · rw [if_pos h]
    exact ⟨.inl, fun z => z.elim id fun e => e ▸ h⟩
  · rw [if_neg h, List.mem_append, List.mem_singleton]
theorem DInv.zero {P : Pb} {sw ks : List Stt} {fd : List (List Int)} {t : List Nat} (I : DInv P (sw ++ [(0, t)]) ks fd) : DInv P sw ks (putP fd (planL P t)) ∧ meas P sw ks < meas P (sw ++ [(0, t)]) ks := by
  refine ⟨⟨fun s h => I.osw s (List.mem_append_left _ h), I.ock, I.nd, fun s hs => ?_, fun x hx => ?_, ?_⟩, ?_⟩
  · rcases I.clo s hs with h | ⟨h1, h2⟩
    · rcases List.mem_append.mp h with h | h
      · exact .inl h
      · have e : s = (0, t) := List.mem_singleton.mp h
        subst e
        exact .inr ⟨fun _ => mem_putP.mpr (.inr rfl), fun z => absurd rfl z⟩
    · exact .inr ⟨fun z => mem_putP.mpr (.inl (h1 z)), h2⟩
  · rcases mem_putP.mp hx with h | h
    · exact I.ofd x h
    · exact ⟨t, os_end (I.osw _ (List.mem_append_right _ (List.mem_singleton.mpr rfl))), h.symm⟩
  · unfold putP
    by_cases h : planL P t ∈ fd
    · rw [if_pos h]
      exact I.nfd
    · rw [if_neg h, List.nodup_append]
      refine ⟨I.nfd, by simp, fun x hx y hy => ?_⟩
      have e : y = planL P t := by simpa using hy
      subst e
      exact fun z => h (z ▸ hx)
  · unfold meas
    rw [List.length_append]
    show _ < _ + (_ + 1)
    omega
theorem DInv.more {P : Pb} {sw ks : List Stt} {fd : List (List Int)} {e : Nat} {t : List Nat} (he : e ≠ 0) (I : DInv P (sw ++ [(e, t)]) ks fd) :
    DInv P (pushes P e t (lastOf P (stg P P.n) e) (sw, ks)).1 (pushes P e t (lastOf P (stg P P.n) e) (sw, ks)).2 fd ∧ meas P (pushes P e t (lastOf P (stg P P.n) e) (sw, ks)).1 (pushes P e t (lastOf P (stg P P.n) e) (sw, ks)).2 < meas P (sw ++ [(e, t)]) ks := by
  have U := pushes_ok P e t (lastOf P (stg P P.n) e) (sw, ks)
  generalize pushes P e t (lastOf P (stg P P.n) e) (sw, ks) = v at U ⊢
  have ho := I.osw _ (List.mem_append_right _ (List.mem_singleton.mpr rfl))
  have D : DInv P v.1 v.2 fd := by
    refine ⟨fun s h => ?_, fun s h => ?_, U.nd I.nd, fun s hs => ?_, I.ofd, I.nfd⟩
    · rcases U.w1 s h with h | ⟨a, ha, rfl⟩
      · exact I.osw s (List.mem_append_left _ h)
      · exact os_step ho ha
    · rcases U.k1 s h with h | ⟨a, ha, rfl⟩
      · exact I.ock s h
      · exact os_step ho ha
    · have old : (s = (P.n, []) ∨ s ∈ ks) → s ∈ v.1 ∨ ((s.1 = 0 → planL P s.2 ∈ fd) ∧ (s.1 ≠ 0 → ∀ a ∈ lastOf P (stg P P.n) s.1, mor P s.1 s.2 a ∈ v.2)) := fun h => by
        rcases I.clo s h with h | ⟨h1, h2⟩
        · rcases List.mem_append.mp h with h | h
          · exact .inl (U.w2 s h)
          · have e : s = (e, t) := List.mem_singleton.mp h
            subst e
            exact .inr ⟨fun z => absurd z he, fun _ => U.all⟩
        · exact .inr ⟨h1, fun z a ha => U.k2 _ (h2 z a ha)⟩
      rcases hs with h | h
      · exact old (.inl h)
      · rcases U.new s h with h | h
        · exact old (.inr h)
        · exact .inl h
  refine ⟨D, ?_⟩
  have h1 := len_le D.nd fun x hx => os_all (D.ock x hx)
  have h2 := U.len
  have h3 := len_le I.nd fun x hx => os_all (I.ock x hx)
  have h4 : (sw, ks).1.length = sw.length := rfl
  have h5 : (sw, ks).2.length = ks.length := rfl
  have h6 := len_le I.nd fun x hx => U.k2 x hx
  unfold meas
  rw [List.length_append]
  show _ < _ + (_ + 1)
  omega
theorem DInv.found_len {P : Pb} {sw ks : List Stt} {fd : List (List Int)} (I : DInv P sw ks fd) : fd.length ≤ 2 ^ P.n := by
  rw [← subs_len P.n 0, ← List.length_map (f := planL P)]
  refine len_le I.nfd fun x hx => ?_
  obtain ⟨t, ht, rfl⟩ := I.ofd x hx
  obtain ⟨h1, h2⟩ := opt_asc ht
  refine List.mem_map.mpr ⟨t, mem_subs _ _ _ h1 fun x hx => ?_, rfl⟩
  have := h2 x hx
  omega
theorem DInv.done {P : Pb} {ks : List Stt} {fd : List (List Int)} (I : DInv P [] ks fd) {t : List Nat} (h : IsOpt P t) : planL P t ∈ fd := by
  have F := stg_ok P P.n
  have claim : ∀ e, e ≤ P.n → ∀ t1 t2, ((e, t2) = (P.n, ([] : List Nat)) ∨ (e, t2) ∈ ks) → Pth P 0 e t1 ((stg P P.n).getD e 0) → ((0, t1 ++ t2) = (P.n, ([] : List Nat)) ∨ (0, t1 ++ t2) ∈ ks) := by
    intro e
    induction e using Nat.strongRecOn with
    | ind e ih =>
      intro he t1 t2 hc hp
      by_cases h0 : e = 0
      · subst h0
        cases hq : t1 with
        | nil => exact hc
        | cons x r =>
          have := hp.mem x (by rw [hq]; exact List.mem_cons_self)
          omega
      · obtain ⟨m, u, k1, hm, g, ek, et⟩ := hp.last (by omega)
        have hlow := F.least m (by omega) u k1 g
        have hl := F.low e (by omega) he m hm
        have hk : k1 = (stg P P.n).getD m 0 := by omega
        have hin : m ∈ lastOf P (stg P P.n) e := mem_last.mpr ⟨hm, by omega⟩
        have hmk : mor P e t2 m ∈ ks := by
          rcases I.clo (e, t2) hc with h | ⟨_, h2⟩
          · cases h
          · exact h2 h0 m hin
        have := ih m hm (by omega) u (mor P e t2 m).2 (.inr hmk) (g.cast rfl hk)
        have e2 : u ++ (mor P e t2 m).2 = t1 ++ t2 := by
          rw [et, List.append_assoc]
          congr 1
          unfold mor
          by_cases hpos : pos P m e = true
          · simp [hpos]
          · simp [hpos]
        rw [e2] at this
        exact this
  have hc := claim P.n (Nat.le_refl _) t [] (.inl rfl) h
  rw [List.append_nil] at hc
  rcases I.clo _ hc with h | ⟨h1, _⟩
  · cases h
  · exact h1 rfl
end LP

set_option maxHeartbeats 4000000
/-! Rules of our own: sum of a tuple, enumerate of a tuple. -/
namespace LR
open PySem PySem.Spec PyProof.Rows L2

/-! ### sum of a tuple of ints -/
section
variable {prog : Program} {w : World} {A : Around} {E : Value → Shared → Prop} {s : Shared} {l : Addr} {its : List Value} {ns : List Int} {Q : Value → Shared → Prop}
theorem sumT_raw (hh : A.handled = none) (hl : s.heap.IsTuple l its.toArray) (hi : IntsAre its ns)
    (h : ∀ h' tk t', (∀ b o, s.heap.get? b = some o → h'.get? b = some o) → Q (.int ns.sum t') { s with heap := h', toks := tk }) : wpAny (model prog w) A (call (.builtin "sum") [.ref l]) Q E s := by
  obtain ⟨xs, e⟩ := hi.allInts.items
  have hn : numsOf (intItems xs).toList = ns := by rw [← e]; exact hi.numsOf
  rw [nums_intItems] at hn
  rw [e] at hl
  refine PySem.W.ktm_sumG hh hl fun h' tk t' hk => ?_
  have := h h' tk t' hk
  rw [preSum_eq, List.take_of_length_le (by simp), hn]
  exact this
end
def rSumT (K : PySem.W.Frag) : List V → Hp → VK → Prop := fun vs H Q => ∃ (a : Addr) (ns : List Int), vs = [V.ref a] ∧ SqT K H a (ns.map V.int) ∧ Q (.int ns.sum) H
theorem cr_sumT {X : Cx} (hc : X.calm = true) : CallR X (.builtin "sum") (rSumT X.K) := by
  intro pins s σ H vs us Q I r h
  obtain ⟨a, ns, rfl, hs, q⟩ := h
  obtain ⟨its, rv, hl, _⟩ := I.tuple hs
  rw [Vals.ref1 r]
  exact sumT_raw (I.ok.hd hc) (show s.heap.IsTuple a its.toArray from hl) rv.ints fun h' tk t' hk => ⟨.int _, H, I.kept hk, ⟨_, rfl⟩, q⟩

/-! ### enumerate of a tuple -/
def IteT (K : PySem.W.Frag) (a : Addr) : It :=
  ⟨fun i H => ∃ (xs : List V) (x : V), SqT K H a xs ∧ xs[i]? = some x, fun i H v H' => ∃ T x, v = .ref T ∧ H T = none ∧ H' = upd H T (.tup [.int (i : Nat), x]) ∧ ∀ xs, SqT K H a xs → xs[i]? = some x, fun i H => ∃ xs : List V, SqT K H a xs ∧ xs.length ≤ i⟩
theorem turn_enumT {P : Program} {w : World} {K : PySem.W.Frag} {elts : List Expr} {kk : Nat} {tpos : Pos} (a e it : Addr) (hai : a ≠ it) (hea : e ≠ a) :
    Turn P w K (.Tuple elts kk tpos) (IteT K a) [e, it] e (fun i h => (∃ old, IsEnum h e it ((i : Nat) : Int) old) ∧ h.IsTupleIter it a i ∧ e ≠ it) where
  mem := by simp
  obj := fun i h st b hb => by
    obtain ⟨⟨old, he⟩, ⟨o, ho, hc, hd⟩, _⟩ := st
    have e' : b = e ∨ b = it := by simpa using hb
    rcases e' with z | z
    · rw [z]; exact ⟨_, he, fun v q => nomatch q⟩
    · rw [z]; exact ⟨o, ho, fun v q => by rw [hd] at q; cases q⟩
  keep := fun i h h' st k => let ⟨⟨old, he⟩, hi, hne⟩ := st; ⟨⟨old, k e (by simp) _ he⟩, hi.at fun o q => k it (by simp) o q, hne⟩
  item := by
    intro X hP hw hK hc i pins s σ H E I hf st hg
    subst hP hw hK
    obtain ⟨⟨old, he⟩, hit, hne⟩ := st
    obtain ⟨xs, x, hq, hx⟩ := hg
    obtain ⟨its, rv, p, hz⟩ := I.tuple hq
    obtain ⟨u, hu, ru⟩ := rv.get hx
    have hel : e < s.heap.objs.size := Heap.lt_size he
    have hil : it < s.heap.objs.size := by obtain ⟨_, q, _⟩ := hit; exact Heap.lt_size q
    have hp : s.heap.IsTuple a its.toArray := p
    have hlt : i < its.toArray.size := by
      rw [List.size_toArray]
      exact (List.getElem?_eq_some_iff.mp hu).1
    refine wpAny_pyNext_enum_itemC (Draws.tuple (A := X.A.in1) (I.ok.hd hc) it a hai its.toArray) he ⟨hit, hp⟩ hlt hne (by simp [hne, hea]) fun x' h' tk hx' ho hst' hT hsz hk => ?_
    obtain rfl : x' = u := by
      have hu' : its.toArray[i]? = some u := by simpa using hu
      exact Option.some.inj (hx'.symm.trans hu')
    refine ⟨_, rfl, wpAny_letOwnedTupleGo_enum (s := { s with heap := h', toks := tk + 1 }) ho fun h'' he' sb => ?_⟩
    have hT2 : h''.get? s.heap.objs.size = some { cls := .type "tuple", data := .seq #[.int i tk, x'] } := (sb.2 _ (Nat.ne_of_gt hel)).trans hT
    have new : ObjOk X.prog X.w (upd H s.heap.objs.size (.tup [.int (i : Nat), x])) h'' s.heap.objs.size (.tup [.int (i : Nat), x]) :=
      ⟨by show 2 ≤ sizeLine; decide, [.int i tk, x'], .cons ⟨_, rfl⟩ (.cons ru .nil), ⟨_, hT2, rfl, _, rfl⟩⟩
    have I1 : Inv X pins σ (upd H s.heap.objs.size (.tup [.int (i : Nat), x])) { s with heap := h'', toks := tk + 1 } :=
      I.turnedNew (ch := [e, it]) (fun b ob hb q => (sb.2 b (fun z => hb (by simp [z]))).trans (hk b ob (fun z => hb (by simp [z])) (fun z => hb (by simp [z])) q)) hf (Nat.le_refl _) new
    refine ⟨.ref s.heap.objs.size, _, I1, rfl, ⟨_, x, rfl, I.hok.fresh (Nat.le_refl _), rfl, fun ys hy => by rw [I.tuple_inj hy hq]; exact hx⟩, ⟨⟨x', ?_⟩, hst'.1.at fun o q => (sb.2 it (Ne.symm hne)).trans q, hne⟩, fun b hb => ?_⟩
    · have e1 : ((i + 1 : Nat) : Int) = (i : Int) + 1 := by omega
      rw [e1]; exact he'
    · have hb' : b < s.heap.objs.size := by
        have e' : b = e ∨ b = it := by simpa using hb
        rcases e' with z | z
        · rw [z]; exact hel
        · rw [z]; exact hil
      rw [upd_ne (Nat.ne_of_lt hb')]
      exact (hf b hb).1
  done := by
    intro X hP hw hK hc i pins s σ H E I hf st hg
    subst hP hw hK
    obtain ⟨⟨old, he⟩, hit, hne⟩ := st
    obtain ⟨xs, hq, hx⟩ := hg
    obtain ⟨its, rv, p, hz⟩ := I.tuple hq
    obtain ⟨f0, f1, f2, f3, f4, f5⟩ := hf it (by simp)
    have hl := rv.length
    have hp : s.heap.IsTuple a its.toArray := p
    have hT : s.TypeIs (.ref e) "enumerate" := ⟨_, he, rfl⟩
    unfold pyNext
    refine wpAny_bind (wpAny_attempt (wpAny_callSpecial?_slot (name := Str.ofString "__next__") hT F.slot_enumerate_next
      (wpAny_call_entry F.slot_enumerate_next hT F.entry_enumerate_next ?_ (F.args_enumerate_next_1 _))))
    show wpAny _ _ (field (.ref e) 2 >>= _) _ _ _
    refine wpAny_bind (wpAny_field he rfl (x := .ref it) rfl ?_)
    refine wpAny_bind (wpAny_nextOf_tuple_end (I.ok.hd hc) hit hp (by simp; omega) fun h' x he' hx' => ?_)
    obtain ⟨o, ho, hcls⟩ := hx'
    refine wpAny_bind (wpAny_isInstance (T := "StopIteration") (b := true) ⟨o, ho, hcls⟩ isSubtype_stop ?_)
    exact wpAny_pure ⟨rfl, I.turned (t' := s.toks) (fun b o hb q => he' b o hb q) f0 f1 f3 f4 f5⟩
  self := fun A i s Q E st h => let ⟨⟨_, he⟩, _⟩ := st; wpAny_pyIter_enum he h
set_option maxHeartbeats 8000000 in
theorem meets_enumerate_newT (l : Addr) (items : Array Value) (n : Nat) (dct : Option Addr) (sl : Array (Option Value)) :
    Meets (Builtin.«enumerate.__new__» ⟨[.type "enumerate", .ref l], []⟩) (fun _ R s => s.heap.get? l = some { cls := .type "tuple", dict := dct, data := .seq items n, slots := sl } ∧
      R (.ok (.ret (.ref (s.heap.push { cls := .type "tuple_iterator", data := .fields #[.ref l, .int 0 0] }).objs.size)))
        { s with heap := (s.heap.push { cls := .type "tuple_iterator", data := .fields #[.ref l, .int 0 0] }).push { cls := .type "enumerate", data := .fields #[.none, .bool false, .ref s.heap.objs.size, rawInt 0, .none, .none] } }) :=
  .of_wp fun prog w A R s h => by
    obtain ⟨hp, g, d, tk, os⟩ := s; obtain ⟨hl, h⟩ := h
    have hsub := sub_enumerate
    have hL : Heap.IsTuple (Shared.heap ⟨hp, g, d, tk, os⟩) l items := ⟨_, hl, rfl, n, rfl⟩
    wp_walk using AutoSeq1.wpAny_loadPart' hl
    refine wpAny_stack_any fun st => wpAny_pure ?_
    split
    · rename_i c _ _ _ _ _
      cases (c == Value.type "enumerate")
      · wp_walk using AutoSeq1.wpAny_loadPart' hl, wpAny_pyIter_tuple hL
        exact ⟨_, rfl, h⟩
      · wp_walk using AutoSeq1.wpAny_loadPart' hl, wpAny_pyIter_tuple hL
        exact ⟨_, rfl, h⟩
    · wp_walk using AutoSeq1.wpAny_loadPart' hl, wpAny_pyIter_tuple hL
      exact ⟨_, rfl, h⟩
section
variable {prog : Program} {w : World} {A : Around} {E : Value → Shared → Prop} {s : Shared}
theorem call_enumerate_tuple {l : Addr} {items : Array Value} {Q : Value → Shared → Prop} (hL : s.heap.IsTuple l items)
    (h : ∀ h', IsEnum h' (s.heap.objs.size + 1) s.heap.objs.size 0 .none → h'.IsTupleIter s.heap.objs.size l 0 → h'.objs.size = s.heap.objs.size + 2 →
      (∀ b o, s.heap.get? b = some o → h'.get? b = some o) → Q (.ref (s.heap.objs.size + 1)) { s with heap := h' }) :
    wpAny (model prog w) A (call (.type "enumerate") [.ref l]) Q E s := by
  obtain ⟨⟨c, dct, dt, sl⟩, hl, hc, n, hd⟩ := hL
  replace hc : c = .type "tuple" := hc
  replace hd : dt = .seq items n := hd
  subst hc hd
  refine callType_new F.called_enumerate (by decide) (F.typeCall_enumerate_1 _) (F.newCall_enumerate_1 _) (fun obj => F.args_object_init_2 obj _) F.entry_enumerate_new
    (meets_enumerate_newT l items n dct sl) ⟨hl, ?_⟩
  have hz : (s.heap.push { cls := .type "tuple_iterator", data := .fields #[.ref l, .int 0 0] }).objs.size = s.heap.objs.size + 1 := Heap.size_push ..
  show _ ∧ _
  rw [hz]
  have he : IsEnum ((s.heap.push { cls := .type "tuple_iterator", data := .fields #[.ref l, .int 0 0] }).push
      { cls := .type "enumerate", data := .fields #[.none, .bool false, .ref s.heap.objs.size, rawInt 0, .none, .none] }) (s.heap.objs.size + 1) s.heap.objs.size 0 .none := by
    have := Heap.get?_push_size (s.heap.push { cls := .type "tuple_iterator", data := .fields #[.ref l, .int 0 0] })
      (o := { cls := .type "enumerate", data := .fields #[.none, .bool false, .ref s.heap.objs.size, rawInt 0, .none, .none] }) rfl
    rw [hz] at this; exact this
  refine ⟨⟨_, he, rfl⟩, h _ he ⟨_, Heap.get?_push_of_some _ (Heap.get?_push_size _ rfl), rfl, rfl⟩ (by rw [Heap.size_push, hz]) fun b o x => Heap.get?_push_of_some _ (Heap.get?_push_of_some _ x)⟩
end
def iEnumT (K : PySem.W.Frag) (ta : TA) : TI := fun σ H R => ta σ H fun vs H1 => ∃ a xs, vs = [.ref a] ∧ SqT K H1 a xs ∧ R (IteT K a) H1
theorem pi_enumT {X : Cx} {e : Expr} {ta : TA} {p pos tpos : Pos} {elts : List Expr} {kk : Nat} (hg : Gl X "enumerate") (hm : X.mg "enumerate" = none) (ha : PA X [e] ta) (hs : starEach [e] X.env = [(false, eval e X.env)] := by rfl) :
    PI X (.Tuple elts kk tpos) (.Call (.Name "enumerate" p) [e] [] pos) (iEnumT X.K ta) := by
  refine ⟨fun pins s σ H R I h => ?_⟩
  refine Call_ (ld_blt I hg hm boot_enumerate (PyProof.Rows.callWith_type1 (thn (ha.run pos pins s σ H _ I h) fun us s1 ⟨vs, H1, I1, r1, q1⟩ => ?_) hs rfl))
  obtain ⟨a, xs, ex, hq, q⟩ := q1
  subst ex
  cases r1 with
  | cons r rr =>
    cases rr
    cases r
    obtain ⟨its, rv, p', hz⟩ := I1.tuple hq
    have hp' : s1.heap.IsTuple a its.toArray := p'
    have hal : a < s1.heap.objs.size := p'.lt
    refine call_enumerate_tuple hp' fun h' he hit hsz hk => wpAny_pyIter_enum he ?_
    have I2 : Inv X pins σ H1 { s1 with heap := h' } := I1.kept (t' := s1.toks) hk
    refine ⟨s1.heap.objs.size + 1, [s1.heap.objs.size + 1, s1.heap.objs.size], _, _, H1, rfl, I2, turn_enumT a (s1.heap.objs.size + 1) s1.heap.objs.size (Nat.ne_of_lt hal) (Nat.ne_of_gt (Nat.lt_succ_of_lt hal)), ⟨⟨.none, he⟩, hit, Nat.succ_ne_self _⟩, fun b hb => ?_, q⟩
    have e' : b = s1.heap.objs.size + 1 ∨ b = s1.heap.objs.size := by simpa using hb
    have hle : s1.heap.objs.size ≤ b := by
      rcases e' with z | z
      · rw [z]; exact Nat.le_add_right _ _
      · rw [z]; exact Nat.le_refl _
    exact I1.fpOk hle (I1.hok.fresh hle)
theorem walk_enumT {K : PySem.W.Frag} {a : Addr} {xs : List V} : Walk (IteT K a) xs.length (fun H => SqT K H a xs) (YPair (fun i => some (.int (i : Nat))) (fun i => xs[i]?)) := by
  refine ⟨fun i _ hi q => ⟨xs, xs[i], q, by simp [hi]⟩, fun _ q => ⟨xs, q, Nat.le_refl _⟩, fun i H v H' _ q y => ?_⟩
  obtain ⟨T, x, h1, h2, h3, h4⟩ := y
  exact ⟨T, .int (i : Nat), x, h1, h2, h3, rfl, h4 xs q⟩
end LR

set_option maxHeartbeats 4000000
/-! A dict whose keys are pairs of an int and a tuple of ints. -/
namespace LR
open PySem PySem.Spec PyProof.Rows L2

abbrev NKey := Nat × List Nat
def nums (t : List Nat) : List V := t.map fun (i : Nat) => V.int i
def nk (s : NKey) : NestedKey := .tup [.num s.1, .tup (s.2.map fun (i : Nat) => .num i)]
theorem nk_nums : ∀ {a b : List Nat}, (a.map fun (i : Nat) => NestedKey.num i) = b.map (fun (i : Nat) => NestedKey.num i) → a = b
  | [], [], _ => rfl
  | [], _ :: _, e => by simp at e
  | _ :: _, [], e => by simp at e
  | x :: xs, y :: ys, e => by
    rw [List.map_cons, List.map_cons] at e
    injection e with e1 e2
    injection e1 with e1
    rw [nk_nums e2]
    congr 1
    omega
theorem nk_inj {a b : NKey} (h : nk a = nk b) : a = b := by
  obtain ⟨a1, a2⟩ := a
  obtain ⟨b1, b2⟩ := b
  unfold nk at h
  injection h with h
  injection h with h1 h2
  injection h1 with h1
  injection h2 with h2 _
  injection h2 with h2
  obtain rfl : a2 = b2 := nk_nums h2
  have h1' : ((a1 : Nat) : Int) = (b1 : Int) := h1
  obtain rfl : a1 = b1 := by omega
  rfl
theorem depth_nums : ∀ t : List Nat, NestedKey.depthAll (t.map fun (i : Nat) => NestedKey.num i) = 0
  | [] => rfl
  | x :: r => by
    rw [List.map_cons]
    unfold NestedKey.depthAll
    rw [depth_nums r]
    unfold NestedKey.depth
    rfl
theorem nk_depth (s : NKey) : (nk s).depth ≤ 8 := by
  unfold nk
  simp only [NestedKey.depth, NestedKey.depthAll, depth_nums]
  decide
/-- at a stands a tuple of an int and a tuple of ints -/
def KeyA (H : Hp) (s : NKey) (a : Addr) : Prop := ∃ q, H a = some (.tup [.int (s.1 : Nat), .ref q]) ∧ H q = some (.tup (nums s.2))
theorem KeyA.keep {H H' : Hp} {s : NKey} {a : Addr} (k : KeyA H s a) (ht : ∀ b xs, H b = some (.tup xs) → H' b = some (.tup xs)) : KeyA H' s a :=
  let ⟨q, h1, h2⟩ := k; ⟨q, ht _ _ h1, ht _ _ h2⟩
theorem all_nums {h : Heap} : ∀ {t : List Nat} {us : List Value}, Vals (nums t) us → NestedAll h (t.map fun (i : Nat) => NestedKey.num i) us
  | [], _, r => by cases r; exact .nil
  | x :: t, _, r => by
    cases r with
    | cons h1 h2 =>
      obtain ⟨u, rfl⟩ := h1
      exact .cons (.int _ u) (all_nums h2)
abbrev Ent := NKey × Addr × Value
def MetO (P : Program) (w : World) (d : Addr) (xs : List Ent) : HO := .ext fun h => (d == sysModules) = false ∧ ∃ o es ep, h.get? d = some o ∧ o.ExactDict ∧ o.data = .dict es ep ∧ es.toList = (xs.map fun x => (nk x.1, x.2)).map (entryOfKey (nestedKind P w))
structure Met (P : Program) (w : World) (H : Hp) (d : Addr) (ks : List NKey) : Prop where
  ex : ∃ xs : List Ent, H d = some (MetO P w d xs) ∧ xs.map (·.1) = ks ∧ ∀ x ∈ xs, KeyA H x.1 x.2.1
  nd : ks.Nodup
theorem Met.keep {P : Program} {w : World} {H H' : Hp} {d : Addr} {ks : List NKey} (m : Met P w H d ks) (hd : H' d = H d) (ht : ∀ b xs, H b = some (.tup xs) → H' b = some (.tup xs)) : Met P w H' d ks := by
  obtain ⟨⟨xs, h1, h2, h3⟩, nd⟩ := m
  exact ⟨⟨xs, hd.trans h1, h2, fun x hx => (h3 x hx).keep ht⟩, nd⟩
theorem Met.same {P : Program} {w : World} {H H' : Hp} {d : Addr} {ks : List NKey} (m : Met P w H d ks) (s : Same H H') : Met P w H' d ks := by
  obtain ⟨⟨xs, h1, h2, h3⟩, nd⟩ := m
  exact ⟨⟨xs, s _ _ h1, h2, fun x hx => (h3 x hx).keep fun b ys e => s _ _ e⟩, nd⟩
theorem atKey_some {K : Type} [DecidableEq K] (k : K) : ∀ ys : List (K × Addr × Value), (atKey ys k).isSome = decide (k ∈ ys.map (·.1))
  | [] => by simp [atKey]
  | y :: ys => by
    have ih := atKey_some k ys
    unfold atKey at ih ⊢
    rw [List.find?_cons]
    by_cases e : y.1 = k
    · simp [e]
    · rw [decide_eq_false e]
      simp only [List.map_cons, List.mem_cons]
      rw [ih]
      have e' : ¬ k = y.1 := fun z => e z.symm
      simp [e']
theorem mem_nk {s : NKey} : ∀ {xs : List Ent}, nk s ∈ (xs.map fun x => (nk x.1, x.2)).map (·.1) ↔ s ∈ xs.map (·.1) := by
  intro xs
  rw [List.map_map]
  constructor
  · intro h
    obtain ⟨x, hx, e⟩ := List.mem_map.mp h
    exact List.mem_map.mpr ⟨x, hx, nk_inj e⟩
  · intro h
    obtain ⟨x, hx, e⟩ := List.mem_map.mp h
    exact List.mem_map.mpr ⟨x, hx, congrArg nk e⟩
section
variable {X : Cx} {pins : List (Addr × Obj)} {σ : L2.St} {H : Hp} {s : Shared}
theorem key_is (I : Inv X pins σ H s) {k : NKey} {a : Addr} (h : KeyA H k a) : (nestedKind X.prog X.w).is s.heap (nk k) a := by
  obtain ⟨q, h1, h2⟩ := h
  obtain ⟨_, its, r, o, g1, g2, n, g3⟩ := (show ObjOk X.prog X.w H s.heap a (.tup [.int (k.1 : Nat), .ref q]) from I.hok a _ h1)
  obtain ⟨_, its2, r2, o2, f1, f2, n2, f3⟩ := (show ObjOk X.prog X.w H s.heap q (.tup (nums k.2)) from I.hok q _ h2)
  refine ⟨?_, nk_depth k⟩
  refine .tup g1 g2 g3 ?_
  cases r with
  | cons r1 r' =>
    cases r' with
    | cons r2' r'' =>
      cases r''
      obtain ⟨t, rfl⟩ := r1
      cases r2'
      exact .cons (.int _ t) (.cons (.tup f1 f2 f3 (all_nums r2)) .nil)
theorem met_dict (I : Inv X pins σ H s) {d : Addr} {xs : List Ent} (h1 : H d = some (MetO X.prog X.w d xs)) (h3 : ∀ x ∈ xs, KeyA H x.1 x.2.1) (nd : (xs.map (·.1)).Nodup) :
    (d == sysModules) = false ∧ s.heap.DictOfH (nestedKind X.prog X.w) d (xs.map fun x => (nk x.1, x.2)) := by
  obtain ⟨⟨lo, o, es, ep, g1, g2, g3, g4⟩, _, _⟩ := (show ObjOk X.prog X.w H s.heap d (MetO X.prog X.w d xs) from I.hok d _ h1)
  refine ⟨lo, o, es, ep, g1, g2, g3, g4, fun x hx => ?_, ?_⟩
  · obtain ⟨y, hy, rfl⟩ := List.mem_map.mp hx
    exact key_is I (h3 y hy)
  · rw [List.map_map]
    have e : ((fun x : NestedKey × Addr × Value => x.1) ∘ fun x : Ent => (nk x.1, x.2)) = nk ∘ (fun x : Ent => x.1) := rfl
    rw [e, ← List.map_map]
    refine List.pairwise_map.mpr (nd.imp fun {a b} hne z => hne (nk_inj z))
theorem room8 (hu : X.A.units + 9 < cLine) : (nestedKind X.prog X.w).room X.A.in1 := by
  show X.A.units + 1 + 8 < cLine
  exact hu
end
def rNotInM (P : Program) (w : World) : R2 := fun x y H Q => ∃ d ks a k, x = .ref a ∧ y = .ref d ∧ KeyA H k a ∧ Met P w H d ks ∧ Q (.bl (!decide (k ∈ ks))) H
theorem op_notInM {X : Cx} (hu : X.A.units + 9 < cLine) : OpR X (compareOp .NotIn) (rNotInM X.prog X.w) := by
  intro pins s σ H x y v u Q I rx ry h
  obtain ⟨d, ks, a, k, rfl, rfl, hk, ⟨⟨xs, h1, h2, h3⟩, nd⟩, q⟩ := h
  cases rx
  cases ry
  subst h2
  obtain ⟨lo, hd⟩ := met_dict I h1 h3 nd
  refine wpAny_notIn_heap (room8 hu) (key_is I hk) lo hd ?_
  rw [atKey_some]
  have e : decide (nk k ∈ (xs.map fun x => (nk x.1, x.2)).map (·.1)) = decide (k ∈ xs.map (·.1)) := decide_eq_decide.mpr mem_nk
  rw [e]
  exact ⟨.bl _, H, I.tok _, rfl, q⟩
def rSetM (P : Program) (w : World) : TSet := fun o i v H Q => ∃ d ks a k, o = .ref d ∧ i = .ref a ∧ KeyA H k a ∧ Met P w H d ks ∧ k ∉ ks ∧ ks.length < sizeLine ∧
  ∀ H', Met P w H' d (ks ++ [k]) → (∀ b, b ≠ d → H' b = H b) → Q H'
theorem set_met {X : Cx} (hu : X.A.units + 9 < cLine) : PSet X (rSetM X.prog X.w) := by
  intro pins s σ H o i v ov iv u Q I ro ri rv h
  obtain ⟨d, ks, a, k, rfl, rfl, hk, ⟨⟨xs, h1, h2, h3⟩, nd⟩, hn, hl, q⟩ := h
  cases ro
  cases ri
  subst h2
  obtain ⟨lo, hd⟩ := met_dict I h1 h3 nd
  have hz : (xs.map fun x => (nk x.1, x.2)).length ≤ sizeLine := by
    rw [List.length_map] at hl ⊢
    omega
  refine wpAny_setItem_heap (hsz := hz) (room8 hu) (key_is I hk) hd fun h' dd' hs => ?_
  have hno : atKey (xs.map fun x => (nk x.1, x.2)) (nk k) = none := by
    have e := atKey_some (nk k) (xs.map fun x => (nk x.1, x.2))
    rw [decide_eq_false (fun z => hn (mem_nk.mp z))] at e
    cases q : atKey (xs.map fun x => (nk x.1, x.2)) (nk k) with
    | none => rfl
    | some z => rw [q] at e; cases e
  rw [storedH_new hno] at dd'
  obtain ⟨o', es, ep, g1, g2, g3, g4, _, _⟩ := dd'
  have hne : ∀ b ys, H b = some (.tup ys) → b ≠ d := fun b ys e => ne_of e h1 (fun z => nomatch z)
  have hH : ∀ b ys, H b = some (.tup ys) → (upd H d (MetO X.prog X.w d (xs ++ [(k, a, u)]))) b = some (.tup ys) := fun b ys e => by
    rw [upd_ne (hne b ys e)]
    exact e
  refine ⟨upd H d (MetO X.prog X.w d (xs ++ [(k, a, u)])), d_write I (by rw [h1]; exact True.intro) hs ⟨o', g1⟩ ?_, q _ ⟨⟨_, upd_same, ?_, fun x hx => ?_⟩, ?_⟩ fun b hb => upd_ne hb⟩
  · refine ⟨⟨lo, o', es, ep, g1, g2, g3, ?_⟩, ⟨o', g1⟩, fun h1 h2 p k => ?_⟩
    · rw [g4, List.map_append (l₁ := xs)]
      all_goals rfl
    · obtain ⟨lo, o, es, ep, e1, r⟩ := p
      exact ⟨lo, o, es, ep, k _ e1, r⟩
  · rw [List.map_append]
    rfl
  · rcases List.mem_append.mp hx with hx | hx
    · exact (h3 x hx).keep hH
    · have e : x = (k, a, u) := by simpa using hx
      subst e
      exact hk.keep hH
  · rw [List.nodup_append]
    refine ⟨nd, by simp, fun x hx y hy => ?_⟩
    have e : y = k := by simpa using hy
    subst e
    exact fun z => hn (z ▸ hx)
def tDNewM (P : Program) (w : World) : TE := fun _ H Q => ∀ p H', H p = none → (∀ b, b ≠ p → H' b = H b) → Met P w H' p [] → Q (.ref p) H'
theorem pe_dnewM {X : Cx} {pos : Pos} : PE X (.Dict [] [] pos) (tDNewM X.prog X.w) := by
  refine ⟨fun pins s σ H Q I h => ?_⟩
  have z := (pe_dnewT (X := X) (pos := pos)).run pins s σ H (fun v H1 => ∃ p, v = .ref p ∧ H p = none ∧ H1 = upd H p (.dT [])) I fun p hp => ⟨p, rfl, hp, rfl⟩
  refine thn z fun u s' ⟨v, H1, I1, r, p, e1, hp, e2⟩ => ?_
  subst e1 e2
  cases r
  obtain ⟨_, lo, ys, rel, o, es, ep, g1, g2, g3, g4, _⟩ := (show ObjOk X.prog X.w (upd H p (.dT [])) s'.heap p (.dT []) from I1.hok p _ upd_same)
  cases rel
  have hup : upd (upd H p (.dT [])) p (MetO X.prog X.w p []) = upd H p (MetO X.prog X.w p []) := upd_upd
  have I2 : Inv X pins σ (upd H p (MetO X.prog X.w p [])) { s' with heap := s'.heap, toks := s'.toks } := by
    rw [← hup]
    refine I1.write (x := p) (e := p) (t' := s'.toks) (by rw [upd_same]; exact True.intro) (.inl rfl) (fun b u _ q => q) ⟨o, g1⟩ ?_
    refine ⟨⟨lo, o, es, ep, g1, g2, g3, ?_⟩, ⟨o, g1⟩, fun h1 h2 p k => ?_⟩
    · rw [g4]
      rfl
    · obtain ⟨lo, o, es, ep, e1, r⟩ := p
      exact ⟨lo, o, es, ep, k _ e1, r⟩
  exact ⟨.ref p, _, I2, rfl, h p _ hp (fun b hb => upd_ne hb) ⟨⟨[], upd_same, rfl, fun x hx => nomatch hx⟩, List.nodup_nil⟩⟩
end LR

set_option maxHeartbeats 4000000
/-! sorted of a dict whose keys are tuples of ints, any number of them. -/
namespace LR
open PySem PySem.Spec PyProof.Rows L2
section
variable {prog : Program} {w : World} {A : Around} {E : Value → Shared → Prop} {s : Shared}
abbrev rkT (B : Int) (h : Heap) (v : Value) : Int := TS.code B (TS.intsOf h v)
abbrev ltT (B : Int) (h : Heap) (v u : Value) : Bool := decide (rkT B h v < rkT B h u)
theorem swo_T (B : Int) (h : Heap) : SrtO.Swo (ltT B h) := by
  refine ⟨fun x y h1 => ?_, fun x y z h1 h2 => ?_⟩
  · have a := of_decide_eq_true h1
    exact decide_eq_false (by omega)
  · have a := of_decide_eq_false h1
    have b := of_decide_eq_false h2
    exact decide_eq_false (by omega)
theorem tups_sortable {d : Nat} {B : Int} {vs : List Value} {a : Addr} {h0 : Heap} (hd : 1 ≤ d) (h2 : 2 ≤ vs.length) (x0 : TS.TupsOk h0 d B vs) (k0 : ∀ b o, h0.get? b = some o → o.cls = .type "tuple" → s.heap.get? b = some o)
    (ha : ∀ o, s.heap.get? a = some o → o.cls ≠ .type "tuple") : SrtO.SortableO prog w A s a vs (ltT B h0) := by
  intro h' keep
  have kk : ∀ b o, h0.get? b = some o → o.cls = .type "tuple" → h'.get? b = some o := fun b o e c => keep b o (fun z => by subst z; exact ha o (k0 _ o e c) c) (k0 b o e c)
  have x' : TS.TupsOk h' d B vs := x0.keeps kk
  obtain ⟨fs, k, hl, hi⟩ := TS.firsts_of hd vs x'
  refine ⟨tuples' true, fun Q E hq => ?_, ?_⟩
  · refine PySem.W.kat_kind (T := .type "int") k (by omega) (fun f hf => ?_) (by rfl) ?_
    · obtain ⟨n, t, rfl⟩ := hi f hf
      exact PySem.W.Looks.of_pure rfl
    · have e : (Value.type "int" != Value.type "tuple") = true := by first | decide +kernel | rfl | decide
      rw [e]
      exact hq
  · intro p q hp hq
    obtain ⟨ns, tp, lp, bp⟩ := x0 _ hp
    obtain ⟨ms, tq, lq, bq⟩ := x0 _ hq
    have e1 : TS.intsOf h0 p.1 = ns := tp.ints
    have e2 : TS.intsOf h0 q.1 = ms := tq.ints
    show wpAny (model prog w) A (keyLt' (tuples' true) p.1 q.1) (fun r s' => s' = { s with heap := h' } ∧ r = decide (TS.code B (TS.intsOf h0 p.1) < TS.code B (TS.intsOf h0 q.1))) (fun _ _ => False) { s with heap := h' }
    rw [e1, e2]
    obtain ⟨a1, xs, e3, ⟨o, ho, hc, n, hdt⟩, i⟩ := tp.keeps kk
    obtain ⟨a2, ys, e4, ⟨o', ho', hc', n', hdt'⟩, i'⟩ := tq.keeps kk
    rw [e3, e4]
    refine PySem.W.kat_lt ho hdt ho' hdt' ?_
    have sz : decide (xs.size < ys.size) = false := by
      have l1 := i.length
      have l2 := i'.length
      rw [Array.length_toList] at l1 l2
      exact decide_eq_false (by omega)
    rw [sz]
    exact TS.lex_ints 0 i i' (by omega) bp bq ⟨rfl, rfl⟩
end
def rSortedDT : List V → Hp → VK → Prop := fun vs H Q => ∃ (d : Addr) (kvs : List (List L2.Key × V)) (m : Nat) (B : Int), vs = [V.ref d] ∧ H d = some (.dT kvs) ∧ 1 ≤ m ∧
  (∀ kv ∈ kvs, ∃ ns : List Int, kv.1 = ns.map Sum.inl ∧ ns.length = m ∧ TS.Bd B ns) ∧
  ∀ (ks bs : List Addr) (p : Addr), IsKeys H kvs ks → bs.Perm ks → H p = none → Q (.ref p) (upd H p (.lst (bs.map V.ref)))
theorem kV_ints (ns : List Int) : (ns.map (Sum.inl : Int → L2.Key)).map kV = ns.map V.int := by
  rw [List.map_map]
  rfl
theorem vals_intsR : ∀ {ns : List Int} {us : List Value}, Vals (ns.map V.int) us → IntsAre us ns
  | [], _, r => by cases r; exact .nil
  | n :: ns, _, r => by
    cases r with
    | cons h1 h2 =>
      obtain ⟨t, rfl⟩ := h1
      exact .cons n t (vals_intsR h2)
theorem unref : ∀ {us : List Value} {ks : List Addr}, us.Perm (ks.map Value.ref) → ∃ bs : List Addr, us = bs.map Value.ref ∧ bs.Perm ks := by
  intro us ks h
  have all : ∀ l : List Value, (∀ u ∈ l, ∃ a, u = Value.ref a) → ∃ bs : List Addr, l = bs.map Value.ref := by
    intro l
    induction l with
    | nil => exact fun _ => ⟨[], rfl⟩
    | cons u l ih =>
      intro hl
      obtain ⟨a, rfl⟩ := hl u List.mem_cons_self
      obtain ⟨bs, rfl⟩ := ih fun v hv => hl v (List.mem_cons_of_mem _ hv)
      exact ⟨a :: bs, rfl⟩
  obtain ⟨bs, rfl⟩ := all us fun u hu => by
    obtain ⟨a, _, e⟩ := List.mem_map.mp (h.mem_iff.mp hu)
    exact ⟨a, e.symm⟩
  refine ⟨bs, rfl, ?_⟩
  have g := h.map (fun v : Value => match v with | .ref a => a | _ => (0 : Addr))
  rw [List.map_map, List.map_map] at g
  have e : ∀ l : List Addr, l.map ((fun v : Value => match v with | .ref a => a | _ => (0 : Addr)) ∘ Value.ref) = l := fun l => by
    induction l with
    | nil => rfl
    | cons a l ih =>
      rw [List.map_cons, ih]
      rfl
  rw [e, e] at g
  exact g
theorem cr_sortedDT {X : Cx} (hc : X.calm = true) : CallR X (.builtin "sorted") rSortedDT := by
  intro pins s σ H vs us Q I r h
  obtain ⟨d, kvs, m, B, rfl, hd, hm, hk, q⟩ := h
  obtain ⟨u, rfl, rx⟩ := r.one
  cases rx
  obtain ⟨z, lo, ks, pr, o, es, ep, ho, hx, hdt, he, hn⟩ := (show ObjOk X.prog X.w H s.heap d (.dT kvs) from I.hok d _ hd)
  have l1 : es.size = ks.length := size_of_entries he
  have l2 : kvs.length = ks.length := Paired.length pr
  refine Calls.call_function_entry PyProof.Rows.kind_sorted PyProof.Rows.plain_sorted PyProof.Rows.entry_sorted (PyProof.Rows.args_sorted1 _) ?_
  unfold Builtin.«sorted»
  refine wpAny_bind (m := checkCount "sorted" 1 1 _) (wpAny_pure ?_)
  refine wpAny_bind (PySem.W.kdu_collect (A := X.A.in1) (kdl_raw lo hx hdt) (I.ok.hd hc) ho (by omega) fun h' tk acc kp it => ?_)
  have ea : acc.toList = (ks.map fun x => x.2.1).map Value.ref := by
    have hl : acc.toList.length = ks.length := by rw [Array.length_toList, it.1]; exact l1
    rw [List.map_map]
    apply List.ext_getElem?
    intro j
    rw [List.getElem?_map]
    cases hj : acc.toList[j]? with
    | none =>
      have h1 := List.getElem?_eq_none_iff.mp hj
      rw [List.getElem?_eq_none (by omega)]
      all_goals rfl
    | some v =>
      obtain ⟨en, hen, hv⟩ := it.2 j v (by rw [← Array.getElem?_toList]; exact hj)
      have qe := entry_at he j
      rw [hen] at qe
      cases hb : ks[j]? with
      | none =>
        rw [hb] at qe
        exact nomatch (show some en = none from qe)
      | some b =>
        rw [hb] at qe
        have e2 : en = entryOfKey (tupleKind (mixKind X.prog X.w)) b := Option.some.inj qe
        rw [hv, e2]
        all_goals rfl
  generalize hks : (ks.map fun x => x.2.1) = as at ea
  have hka : IsKeys H kvs as := by rw [← hks]; exact isKeys_of pr
  have hal : acc.toList.length = kvs.length := by rw [ea, List.length_map, ← hks, List.length_map]; omega
  have I1 : Inv X pins σ H { s with heap := h', toks := tk } := I.kept kp
  refine wpAny_bind (wpAny_newList ?_ (by rw [hal]; exact z))
  have hoL : (h'.push (seqObj "list" acc.toList.toArray 0)).get? h'.objs.size = some (seqObj "list" acc.toList.toArray 0) := Heap.get?_push_size _ rfl
  show wpAny _ _ _ _ _ { s with heap := h'.push (seqObj "list" acc.toList.toArray 0), toks := tk }
  -- the items are tuples of ints
  have tups : TS.TupsOk h' m B acc.toList := by
    intro v hv
    rw [ea] at hv
    obtain ⟨b, hb, rfl⟩ := List.mem_map.mp hv
    obtain ⟨j, hj⟩ := List.getElem?_of_mem hb
    have find : ∀ {l : List (List L2.Key × V)} {as : List Addr} {j : Nat}, IsKeys H l as → as[j]? = some b → ∃ kv ∈ l, H b = some (.tup (kv.1.map kV)) := by
      intro l as j r
      induction r generalizing j with
      | nil => intro h; simp at h
      | @cons p c ps cs h1 _ ih =>
        intro hj
        cases j with
        | zero =>
          have e : c = b := by simpa using hj
          subst e
          exact ⟨p, List.mem_cons_self, h1⟩
        | succ j =>
          obtain ⟨kv, h2, h3⟩ := ih (j := j) (by simpa using hj)
          exact ⟨kv, List.mem_cons_of_mem _ h2, h3⟩
    obtain ⟨kv, hkv, hb2⟩ := find hka hj
    obtain ⟨ns, e1, e2, e3⟩ := hk kv hkv
    rw [e1, kV_ints] at hb2
    obtain ⟨_, its, r2, p⟩ := (show ObjOk X.prog X.w H h' b (.tup (ns.map V.int)) from I1.hok b _ hb2)
    refine ⟨ns, ⟨b, its.toArray, rfl, p, ?_⟩, e2, e3⟩
    simpa using vals_intsR r2
  refine wpAny_bind (wpAny_holding (wpAny_call_entry PyProof.Rows.slot_list_sort ⟨_, hoL, rfl⟩ PyProof.Rows.entry_list_sort
    (SrtO.list_sort_ord (s := { s with heap := h'.push (seqObj "list" acc.toList.toArray 0), toks := tk }) (swo_T B h') hoL (by rw [hal]; exact z)
      (fun h2 => tups_sortable hm h2 tups (fun b o e c => Heap.get?_push_of_some _ e) fun o e c => ?_) fun out hs hb => ⟨_, rfl, ?_⟩) (PyProof.Rows.args_list_sort _)))
  · have e' : some o = some (seqObj "list" acc.toList.toArray 0) := e.symm.trans hoL
    cases e'
    exact absurd (Value.type.inj c) (by decide)
  · obtain ⟨e', he'⟩ := PyProof.Rows.sortedHeap_at (vs := acc.toList) (out := out.toArray) hoL
    have hp := hb.perm
    rw [ea] at hp
    obtain ⟨bs, rfl, hbs⟩ := unref hp
    have hlen : (bs.map V.ref).length ≤ sizeLine := by
      rw [List.length_map, hbs.length_eq, ← hks, List.length_map]
      omega
    refine wpAny_pure ⟨_, rfl, .ref h'.objs.size, upd H h'.objs.size (.lst (bs.map V.ref)), I1.laid (t' := tk) (fun b u e => ?_) (Nat.le_refl _)
      (show ObjOk X.prog X.w _ _ _ (.lst (bs.map V.ref)) from ⟨hlen, bs.map Value.ref, e', vals_refs bs, he'⟩), rfl, q as bs _ hka hbs (I1.hok.fresh (Nat.le_refl _))⟩
    have hb : b < h'.objs.size := Heap.lt_size e
    rw [PyProof.Rows.sortedHeap_old (Nat.ne_of_lt hb) (by rw [size_push']; exact Nat.lt_succ_of_lt hb)]
    exact Heap.get?_push_of_some _ e
end LR

set_option maxHeartbeats 4000000
/-! The text, the problem as it stands in the heap, what its parts evaluate to. -/
namespace LW
open PySem PySem.Spec PyProof.Rows L2 Evl LR

/-! ### the text -/
def top (i : Nat) : Stmt := PySem.Challenge.pw_lotplans_k89_whole_worths_and_ranges.main.body.getD i (.Pass ⟨0, 0, 0, 0⟩)

/-! ### a def that keeps its promise, as its callers know it -/
structure Gd (P : Program) (w : World) (K : PySem.W.Frag) (mg : Str → Option Value) (base : Heap) (k : Nat) (x : Str) (ps : List Str) (sp : Sp) : Prop where
  ex : ∃ (f : Addr) (fd : FuncData), mg x = some (.ref f) ∧ PySem.W.keepIn K (.ref f) = true ∧ Binds K fd ps [] ∧ FnOk P w K mg base CX0 k f fd ps sp
theorem Gd.mono {P : Program} {w : World} {K : PySem.W.Frag} {mg : Str → Option Value} {base : Heap} {j k : Nat} {x : Str} {ps : List Str} {sp : Sp} (G : Gd P w K mg base j x ps sp) (h : j ≤ k) : Gd P w K mg base k x ps sp := by
  obtain ⟨f, fd, h1, h2, h3, h4⟩ := G.ex
  exact ⟨f, fd, h1, h2, h3, h4.mono h⟩
theorem pe_go {X : Cx} {k : Nat} {x : Str} {ps : List Str} {sp : Sp} {e : Expr} {es : List Expr} {t : TA} {p pos : Pos} (G : Gd X.prog X.w X.K X.mg X.base k x ps sp) (hr : Room k X.A) (hg : Gl X x) (ha : PA X (e :: es) t)
    (hd : (x == ("__debug__" : Str)) = false := by decide) (he : starEach (e :: es) X.env = (false, eval e X.env) :: starEach es X.env := by rfl) (hpl : (backTo pos (starEach es X.env)).any (·.1) = false := by rfl) :
    PE X (.Call (.Name x p) (e :: es) [] pos) (tCall sp [] E0 t) := by
  refine ⟨fun pins s σ H Q I h => ?_⟩
  obtain ⟨f, fd, h1, h2, h3, h4⟩ := G.ex
  exact (pe_call (p := p) (pos := pos) h4 hr hg h1 h2 h3 .nil pass0 ha (hdb := hd) (he := he) (hpl := hpl)).run pins s σ H Q I h
/-- a def of the top as it stands behind the top -/
structure DefAt (K : PySem.W.Frag) (mg : Str → Option Value) (x : Str) (st : Stmt) : Prop where
  ex : ∃ (f : Addr) (fd : FuncData), Fun K x x st f fd ∧ mg x = some (.ref f)
theorem gd_of {P : Program} {w : World} {K : PySem.W.Frag} {mg : Str → Option Value} {base : Heap} {x : Str} {st : Stmt} {N ps : List Str} {k : Nat} {sp : Sp} (D : DefAt K mg x st) (S : FnScope N ps (defScope st)) (len : ∀ vs H Q E, sp vs H Q E → vs.length = ps.length)
    (hb : ∀ (kV doc pm : Value) (an : Option Addr) (cdv ct : Value) (us : List Value), us.length = ps.length → bindArgs (PySem.W.fnOf x x (defArgs st) (defBody st) (defScope st) .none kV doc pm an cdv ct) ⟨us, []⟩ = pure (ps.zip us))
    (hbody : ∀ (f : Addr) (cdv : Value) (A : Around) (outer : List Env) (s : Shared) (H : Hp) (vs : List V) (Q : VK) (E : XK), Room k (A.deeper (envOfC x (defScope st) s.heap.objs.size f cdv)) → sp vs H Q E →
      ∃ t, PSs (cxOf CX0 P w K mg base N x (defScope st) f cdv A outer s H E).nox (defBody st) t ∧ t { nx := fun _ H' => Q .non H', rt := Q } (start N vs) H) : Gd P w K mg base (k + 1) x ps sp := by
  obtain ⟨f, fd, F, g⟩ := D.ex
  exact ⟨f, fd, g, F.kp, F.binds hb, F.ok S len (hbody f)⟩

/-! ### what evaluates to a tuple that may be an old one -/
def EvS (K : PySem.W.Frag) (te : TE) (σ : L2.St) (H : Hp) (xs : List V) : Prop := ∀ H1, Ex H H1 → ∀ Q : VK, (∀ p H2, Ex H1 H2 → SqT K H2 p xs → Q (.ref p) H2) → te σ H1 Q
section
variable {K : PySem.W.Frag} {σ : L2.St} {H H' : Hp} {ta tb te tx : TE} {t u : TT} {x y z v : V}
theorem EvS.mono {xs : List V} (e : Ex H H') (h : EvS K te σ H xs) : EvS K te σ H' xs := fun H1 a Q q => h H1 (e.trans a) Q q
theorem es_ref {a : Addr} {xs : List V} (h : Ev te σ H (.ref a)) (hx : SqT K H a xs) : EvS K te σ H xs := fun H1 e Q q => h H1 e _ fun H2 e2 => q a H2 e2 (ex_t (e.trans e2) hx)
theorem es_is {xs ys : List V} (h : EvS K te σ H xs) (e : xs = ys) : EvS K te σ H ys := e ▸ h
theorem es_sl {tl th : TO} {xs : List V} {lo hi : Option Int} (h : EvS K te σ H xs) (h1 : EvO tl σ H lo) (h2 : EvO th σ H hi) : EvS K (tSl (rSlA K) te tl th) σ H (cutV xs lo hi) := fun H1 e Q q =>
  h H1 e _ fun p H2 e2 hp => h1 H2 (e.trans e2) _ fun H3 e3 => h2 H3 ((e.trans e2).trans e3) _ fun H4 e4 => by
    have hp4 : SqT K H4 p xs := ex_t (e3.trans e4) hp
    refine ⟨p, xs, rfl, hp4, fun hw => ?_, fun _ l hl => q l _ (((e2.trans e3).trans e4).trans (Ex.new hl)) (st_of upd_same)⟩
    have ew : cutV xs lo hi = xs := by
      unfold cutV
      rw [hw.1, hw.2]
      simp
    rw [ew] at q
    exact q p H4 ((e2.trans e3).trans e4) hp4
theorem ev_sumT {ns : List Int} (h : EvS K te σ H (ns.map V.int)) : Ev (tCB (rSumT K) (tCons te tNil)) σ H (.int ns.sum) := fun H1 e Q q =>
  h H1 e _ fun p H2 e2 hp => ⟨p, ns, rfl, hp, q H2 e2⟩
theorem ev_sumL {ns : List Int} (h : EvL te σ H (ns.map V.int)) : Ev (tCB (rSum K) (tCons te tNil)) σ H (.int ns.sum) := fun H1 e Q q =>
  h H1 e _ fun p H2 _ e2 hp => ⟨p, ns, rfl, sq_of hp, q H2 e2⟩
theorem ev_ixS {xs : List V} {i : Int} (h : EvS K ta σ H xs) (hi : Ev tb σ H (.int i)) (ha : atI xs i = some v) : Ev (tOp (rIxT K) ta tb) σ H v := fun H1 e Q q =>
  h H1 e _ fun p H2 e2 hp => hi H2 (e.trans e2) _ fun H3 e3 => ⟨p, xs, i, v, rfl, rfl, ex_t e3 hp, ha, q H3 (e2.trans e3)⟩
theorem ev_ixL {a : Addr} {xs : List V} {i : Int} (h : Ev ta σ H (.ref a)) (hx : SqL K H a xs) (hi : Ev tb σ H (.int i)) (ha : atI xs i = some v) : Ev (tOp (rIxL K) ta tb) σ H v := ev_op h hi (rv_ixL hx ha)
theorem ev_ixNL {xs : List V} {i : Int} (h : EvL ta σ H xs) (hi : Ev tb σ H (.int i)) (ha : atI xs i = some v) : Ev (tOp (rIxL K) ta tb) σ H v := fun H1 e Q q =>
  h H1 e _ fun p H2 _ e2 hp => hi H2 (e.trans e2) _ fun H3 e3 => ⟨p, xs, i, v, rfl, rfl, ex_l e3 (sq_of hp), ha, q H3 (e2.trans e3)⟩
theorem ev_lenS {xs : List V} (h : EvS K te σ H xs) : Ev (tCB (rLenS K) (tCons te tNil)) σ H (.int (xs.length : Int)) := fun H1 e Q q =>
  h H1 e _ fun p H2 e2 hp => ⟨p, xs, rfl, .inr hp, q H2 e2⟩
theorem ev_minL {ns : List Int} (h : EvL te σ H (ns.map V.int)) (hn : ns ≠ []) : Ev (tCB (rMin K) (tCons te tNil)) σ H (.int (LP.mn ns)) := fun H1 e Q q =>
  h H1 e _ fun p H2 _ e2 hp => ⟨p, ns, rfl, sq_of hp, List.length_pos_iff.mpr hn, fun m h1 h2 => by
    rw [LP.mn_uniq h1 h2]
    exact q H2 e2⟩
theorem ev_minR {a : Addr} {ns : List Int} (h : Ev te σ H (.ref a)) (hx : SqL K H a (ns.map V.int)) (hn : ns ≠ []) : Ev (tCB (rMin K) (tCons te tNil)) σ H (.int (LP.mn ns)) := fun H1 e Q q =>
  h H1 e _ fun H2 e2 => ⟨a, ns, rfl, ex_l (e.trans e2) hx, List.length_pos_iff.mpr hn, fun m h1 h2 => by
    rw [LP.mn_uniq h1 h2]
    exact q H2 e2⟩
theorem ev_sumR {a : Addr} {ns : List Int} (h : Ev te σ H (.ref a)) (hx : SqL K H a (ns.map V.int)) : Ev (tCB (rSum K) (tCons te tNil)) σ H (.int ns.sum) := fun H1 e Q q =>
  h H1 e _ fun H2 e2 => ⟨a, ns, rfl, ex_l (e.trans e2) hx, q H2 e2⟩
/-- a new tuple is a tuple -/
theorem EvU.s {xs : List V} (h : EvU te σ H xs) : EvS K te σ H xs := fun H1 e Q q => h H1 e _ fun p H2 _ e2 hp => q p H2 e2 (st_of hp)
/-- tuple(a new list) -/
def rTupS (K : PySem.W.Frag) : List V → Hp → VK → Prop := fun xs H Q => ∃ p ys, xs = [.ref p] ∧ ((SqL K H p ys ∧ ∀ l, H l = none → Q (.ref l) (upd H l (.tup ys))) ∨ (SqT K H p ys ∧ Q (.ref p) H))
theorem eu_tupL {xs : List V} (h : EvL te σ H xs) : EvU (tCB (rTupS K) (tCons te tNil)) σ H xs := fun H1 e Q q =>
  h H1 e _ fun p H2 hp e2 h2 => ⟨p, xs, rfl, .inl ⟨sq_of h2, fun l hl => q l _ (fresh_back e2 hl) (e2.trans (Ex.new hl)) upd_same⟩⟩
theorem eu_tupR {a : Addr} {xs : List V} (h : Ev te σ H (.ref a)) (hx : SqL K H a xs) : EvU (tCB (rTupS K) (tCons te tNil)) σ H xs := fun H1 e Q q =>
  h H1 e _ fun H2 e2 => ⟨a, xs, rfl, .inl ⟨ex_l (e.trans e2) hx, fun l hl => q l _ (fresh_back e2 hl) (e2.trans (Ex.new hl)) upd_same⟩⟩
/-- comprehensions over range(lo, n) -/
theorem el_lcR2 {ta : TA} {j : Nat} {vs : List Nat} {lo n : Int} (f : Nat → Bool) (w : Nat → V) (h : EvA ta σ H [.int lo, .int n]) (hn : 0 ≤ lo ∧ lo ≤ 40000 ∧ -40000 ≤ n ∧ n ≤ 40000) (hw : ∀ x, wipe ((wipe σ vs).set j (some x)) vs = wipe σ vs)
    (ht : ∀ (i : Nat) H1, Ex H H1 → lo + (i : Int) < n → EvT t ((wipe σ vs).set j (some (.int (lo + (i : Int))))) H1 (f i)) (he : ∀ (i : Nat) H1, Ex H H1 → lo + (i : Int) < n → f i = true → Ev te ((wipe σ vs).set j (some (.int (lo + (i : Int))))) H1 (w i)) :
    EvL (tLc (iRng2 ta) (gName j) t te vs) σ H (given (n - lo).toNat f w) := fun H0 e Q q => h H0 e _ fun H1 e1 => ⟨lo, n, rfl, ⟨by omega, by omega, by omega, by omega⟩, fun Dl hD =>
  lc_range (lo := lo) (n := (n - lo).toNat) (Cw H1 f w Dl) ⟨hD, Ex.new hD, upd_same⟩ (fun i H' hi p => ⟨hw _, cw_turn p (by omega) (ht i H1 (e.trans e1) (by omega)) (fun hf => he i H1 (e.trans e1) (by omega) hf)⟩) (fun H' p => q Dl H' (fresh_back e1 p.1) (e1.trans p.2.1) p.2.2)⟩
/-- over a tuple -/
theorem el_lcT {xs : List V} {tl : TE} {j : Nat} {vs : List Nat} (f : Nat → Bool) (w : Nat → V) (h : EvS K tl σ H xs) (hz : xs.length ≤ 40000) (hw : ∀ x, wipe ((wipe σ vs).set j (some x)) vs = wipe σ vs)
    (ht : ∀ (i : Nat) (x : V) H1, Ex H H1 → xs[i]? = some x → EvT t ((wipe σ vs).set j (some x)) H1 (f i)) (he : ∀ (i : Nat) (x : V) H1, Ex H H1 → xs[i]? = some x → f i = true → Ev te ((wipe σ vs).set j (some x)) H1 (w i)) :
    EvL (tLc (iTup K tl) (gName j) t te vs) σ H (given xs.length f w) := fun H0 e Q q => h H0 e _ fun a H1 e1 ha => ⟨a, rfl, ⟨xs, ha⟩, fun Dl hD =>
  lc_tup (xs := xs) (Cw H1 f w Dl) ⟨hD, Ex.new hD, upd_same⟩ (fun i H' _ p => ex_t p.2.1 ha) (fun i x H' hi p => ⟨hw x, cw_turn p (by have := (List.getElem?_eq_some_iff.mp hi).1; omega) (ht i x H1 (e.trans e1) hi) (fun hf => he i x H1 (e.trans e1) hi hf)⟩)
    (fun H' p => q Dl H' (fresh_back e1 p.1) (e1.trans p.2.1) p.2.2)⟩
theorem et_yes : EvT tYes σ H true := fun H1 _ _ q => q H1 (Ex.refl H1)
theorem given_all (n : Nat) (w : Nat → V) : given n (fun _ => true) w = (List.range n).map w := by
  unfold given
  rw [List.filter_eq_self.mpr (fun _ _ => rfl)]
end

/-! ### problems -/
structure Pl where
  d : List Int
  s : List Int
  c : List Int
  h : List Int
def Pl.n (L : Pl) : Nat := L.d.length
def InE (x : Int) : Prop := 0 ≤ x ∧ x ≤ 999
structure Pl.Ok (L : Pl) : Prop where
  n1 : 1 ≤ L.n
  n12 : L.n ≤ 12
  ls : L.s.length = L.n
  lc : L.c.length = L.n
  lh : L.h.length = L.n
  ed : ∀ x ∈ L.d, InE x
  es : ∀ x ∈ L.s, InE x
  ec : ∀ x ∈ L.c, InE x
  eh : ∀ x ∈ L.h, InE x
abbrev gd (l : List Int) (i : Nat) : Int := l.getD i 0
def Pl.pb (L : Pl) : LP.Pb := ⟨L.n, gd L.d, gd L.s, gd L.c, gd L.h⟩
abbrev iL (l : List Int) : List V := l.map V.int
structure At (K : PySem.W.Frag) (H : Hp) (a : Addr) (L : Pl) : Prop where
  ex : ∃ a0 a1 a2 a3, SqT K H a [.ref a0, .ref a1, .ref a2, .ref a3] ∧ SqT K H a0 (iL L.d) ∧ SqT K H a1 (iL L.s) ∧ SqT K H a2 (iL L.c) ∧ SqT K H a3 (iL L.h)
theorem At.mono {K : PySem.W.Frag} {H H' : Hp} {a : Addr} {L : Pl} (e : Ex H H') (h : At K H a L) : At K H' a L := by
  obtain ⟨a0, a1, a2, a3, h, h0, h1, h2, h3⟩ := h.ex
  exact ⟨a0, a1, a2, a3, ex_t e h, ex_t e h0, ex_t e h1, ex_t e h2, ex_t e h3⟩
theorem gd_in {l : List Int} (h : ∀ x ∈ l, InE x) (i : Nat) : InE (gd l i) := by
  unfold gd
  by_cases hi : i < l.length
  · rw [List.getD_eq_getElem?_getD, List.getElem?_eq_getElem hi]
    exact h _ (List.getElem_mem hi)
  · rw [List.getD_eq_getElem?_getD, List.getElem?_eq_none (by omega)]
    exact ⟨Int.le_refl _, by decide⟩
theorem Pl.Ok.pb {L : Pl} (ok : L.Ok) : L.pb.Ok := ⟨fun i => (gd_in ok.ed i).1, fun i => (gd_in ok.es i).1⟩
theorem at_gd {l : List Int} {i : Nat} (h : i < l.length) : atI (iL l) (i : Int) = some (.int (gd l i)) := by
  refine atI_nat ?_
  rw [List.getElem?_map, List.getElem?_eq_getElem h]
  unfold gd
  rw [List.getD_eq_getElem?_getD, List.getElem?_eq_getElem h]
  rfl
theorem sum_range (f : Nat → Int) (a : Nat) : ∀ m, ((List.range m).map fun i => f (a + i)).sum = LP.sumF f a m
  | 0 => rfl
  | m + 1 => by
    rw [List.range_succ, List.map_append, List.sum_append, sum_range f a m]
    show LP.sumF f a m + (f (a + m) + 0) = LP.sumF f a m + f (a + m)
    omega
theorem iL_at {l : List Int} {i : Nat} (h : i < l.length) : (iL l)[i]? = some (V.int (gd l i)) := by
  rw [List.getElem?_map, List.getElem?_eq_getElem h]
  unfold gd
  rw [List.getD_eq_getElem?_getD, List.getElem?_eq_getElem h]
  rfl
theorem cut_seg {l : List Int} {a b : Nat} (h1 : a ≤ b) (h2 : b ≤ l.length) : cutV (iL l) (some (a : Int)) (some (b : Int)) = iL ((List.range (b - a)).map fun i => gd l (a + i)) := by
  unfold cutV
  rw [HT.sIx_nat, HT.sIx_nat, List.length_map, Nat.min_eq_left (show a ≤ l.length by omega), Nat.min_eq_left h2]
  apply List.ext_getElem?
  intro i
  rw [List.getElem?_take, List.getElem?_drop]
  by_cases hi : i < b - a
  · have hr : i < ((List.range (b - a)).map fun i => gd l (a + i)).length := by
      rw [List.length_map, List.length_range]
      exact hi
    rw [if_pos hi, iL_at (show a + i < l.length by omega), iL_at hr]
    unfold gd
    rw [List.getD_eq_getElem?_getD, List.getD_eq_getElem?_getD, List.getElem?_map, List.getElem?_range hi]
    rfl
  · rw [if_neg hi, List.getElem?_eq_none]
    rw [List.length_map, List.length_map, List.length_range]
    omega
theorem seg_sum (l : List Int) (a b : Nat) : ((List.range (b - a)).map fun i => gd l (a + i)).sum = LP.seg (gd l) a b := sum_range (gd l) a (b - a)
section
variable {K : PySem.W.Frag} {σ : L2.St} {H : Hp} {tp ta tb : TE} {a : Addr} {L : Pl}
/-- problem[0] .. problem[3] -/
theorem part0 (h : Ev tp σ H (.ref a)) (P : At K H a L) : EvS K (tOp (rIxT K) tp (tC (.int 0))) σ H (iL L.d) := by
  obtain ⟨a0, a1, a2, a3, g, h0, _⟩ := P.ex
  exact es_ref (ev_op h ev_c (rv_ixT g (atI_nat (j := 0) rfl))) h0
theorem part1 (h : Ev tp σ H (.ref a)) (P : At K H a L) : EvS K (tOp (rIxT K) tp (tC (.int 1))) σ H (iL L.s) := by
  obtain ⟨a0, a1, a2, a3, g, _, h0, _⟩ := P.ex
  exact es_ref (ev_op h ev_c (rv_ixT g (atI_nat (j := 1) rfl))) h0
theorem part2 (h : Ev tp σ H (.ref a)) (P : At K H a L) : EvS K (tOp (rIxT K) tp (tC (.int 2))) σ H (iL L.c) := by
  obtain ⟨a0, a1, a2, a3, g, _, _, h0, _⟩ := P.ex
  exact es_ref (ev_op h ev_c (rv_ixT g (atI_nat (j := 2) rfl))) h0
theorem part3 (h : Ev tp σ H (.ref a)) (P : At K H a L) : EvS K (tOp (rIxT K) tp (tC (.int 3))) σ H (iL L.h) := by
  obtain ⟨a0, a1, a2, a3, g, _, _, _, h0⟩ := P.ex
  exact es_ref (ev_op h ev_c (rv_ixT g (atI_nat (j := 3) rfl))) h0
/-- part[i] -/
theorem ev_gd {l : List Int} {i : Nat} (h : EvS K ta σ H (iL l)) (hi : Ev tb σ H (.int (i : Int))) (hl : i < l.length) : Ev (tOp (rIxT K) ta tb) σ H (.int (gd l i)) := ev_ixS h hi (at_gd hl)
/-- sum(part[a:b]) -/
theorem ev_seg {l : List Int} {i j : Nat} (h : EvS K tp σ H (iL l)) (hi : Ev ta σ H (.int (i : Int))) (hj : Ev tb σ H (.int (j : Int))) (h1 : i ≤ j) (h2 : j ≤ l.length) :
    Ev (tCB (rSumT K) (tCons (tSl (rSlA K) tp (tPart ta) (tPart tb)) tNil)) σ H (.int (LP.seg (gd l) i j)) := by
  rw [← seg_sum]
  refine ev_sumT (es_is (es_sl h (eo_some hi) (eo_some hj)) ?_)
  exact cut_seg h1 h2
end
end LW

set_option maxHeartbeats 4000000
namespace LW
open PySem PySem.Spec PyProof.Rows L2 Evl LR

/-- the built-ins that the text names are still so; the constants -/
structure Bts (mg : Str → Option Value) : Prop where
  len : mg "len" = none
  sum : mg "sum" = none
  range : mg "range" = none
  min : mg "min" = none
  max : mg "max" = none
  tuple : mg "tuple" = none
  all : mg "all" = none
  any : mg "any" = none
  isi : mg "isinstance" = none
  enum : mg "enumerate" = none
  zip : mg "zip" = none
  sorted : mg "sorted" = none
  int : mg "int" = none
  bool : mg "bool" = none
  mp : ∃ t, mg "MOST_PERIODS" = some (.int 12 t)
  me : ∃ t, mg "MOST_ENTRY" = some (.int 999 t)
  ml : ∃ t, mg "MOST_LISTED" = some (.int 500 t)
section
variable {P : Program} {w : World} {K : PySem.W.Frag} {mg : Str → Option Value} {base : Heap}

/-! ### periods_of -/
abbrev sPer : Stmt := top 13
theorem scPer : FnScope ["problem"] ["problem"] (defScope sPer) := ⟨rfl, rfl, rfl, by decide +kernel, rfl, by decide +kernel, by decide +kernel⟩
def spPer (K : PySem.W.Frag) : Sp := fun vs H Q _ => ∃ a L, vs = [.ref a] ∧ At K H a L ∧ ∀ H', Ex H H' → Q (.int (L.n : Nat)) H'
theorem ok_per (D : DefAt K mg "periods_of" sPer) (T : Bts mg) : Gd P w K mg base 1 "periods_of" ["problem"] (spPer K) := by
  refine gd_of D scPer (fun vs H Q E h => ?_) (fun _ _ _ _ _ _ us hl => match us, hl with | [_], _ => rfl) fun f cdv A outer s H vs Q E hr h => ?_
  · obtain ⟨a, L, rfl, _⟩ := h
    rfl
  · obtain ⟨a, L, rfl, hp, k⟩ := h
    refine ⟨_, pss_one (ps_ret (pe_callB call_len_seq (by rfl) T.len PySem.boot_len (pa_cons (pe_ix ix_tup (pv 0) pe_int (fun _ _ => rfl)) pa_nil))), ?_⟩
    refine s_ret (ev_is (ev_lenS (part0 (ev_var rfl) hp)) ?_) fun H1 e => k H1 e
    rw [List.length_map]
    rfl
theorem ev_per {σ : L2.St} {H : Hp} {t : TA} {a : Addr} {L : Pl} (h : EvA t σ H [.ref a]) (hp : At K H a L) : Ev (tCall (spPer K) [] E0 t) σ H (.int (L.n : Nat)) :=
  ev_call h fun H1 e Q q E => ⟨a, L, rfl, hp.mono e, q⟩

/-! ### kept -/
abbrev sKept : Stmt := top 14
theorem scKept : FnScope ["problem", "start", "goal"] ["problem", "start", "goal"] (defScope sKept) := ⟨rfl, rfl, rfl, by decide +kernel, rfl, by decide +kernel, by decide +kernel⟩
def spKept (K : PySem.W.Frag) : Sp := fun vs H Q _ => ∃ a L, ∃ (i j : Nat), vs = [.ref a, .int i, .int j] ∧ At K H a L ∧ L.Ok ∧ i ≤ j ∧ j ≤ L.n ∧ i < L.n ∧ ∀ H', Ex H H' → Q (.int (LP.kept L.pb i j)) H'
theorem ok_kept (D : DefAt K mg "kept" sKept) (T : Bts mg) : Gd P w K mg base 1 "kept" ["problem", "start", "goal"] (spKept K) := by
  refine gd_of D scKept (fun vs H Q E h => ?_) (fun _ _ _ _ _ _ us hl => match us, hl with | [_, _, _], _ => rfl) fun f cdv A outer s H vs Q E hr h => ?_
  · obtain ⟨a, L, i, j, rfl, _⟩ := h
    rfl
  · obtain ⟨a, L, i, j, rfl, hp, ok, h1, h2, h3, k⟩ := h
    refine ⟨_, pss_one (ps_ret (pe_op op_add (pe_ix ix_tup (pe_ix ix_tup (pv 0) pe_int (fun _ _ => rfl)) (pv 1) (fun _ _ => rfl))
      (pe_callB (cr_sumT rfl) (by rfl) T.sum (by decide +kernel) (pa_cons (pe_slice sl_tupA (pe_ix ix_tup (pv 0) pe_int (fun _ _ => rfl)) (po_some (pv 1)) (po_some (pv 2))) pa_nil)))), ?_⟩
    exact s_ret (ev_op (ev_gd (part2 (ev_var rfl) hp) (ev_var rfl) (by rw [ok.lc]; exact h3)) (ev_seg (part3 (ev_var rfl) hp) (ev_var rfl) (ev_var rfl) h1 (by rw [ok.lh]; exact h2)) rv_I0) fun H1 e => k H1 e
theorem ev_kept {σ : L2.St} {H : Hp} {t : TA} {a : Addr} {L : Pl} {i j : Nat} (h : EvA t σ H [.ref a, .int i, .int j]) (hp : At K H a L) (ok : L.Ok) (h1 : i ≤ j) (h2 : j ≤ L.n) (h3 : i < L.n) : Ev (tCall (spKept K) [] E0 t) σ H (.int (LP.kept L.pb i j)) :=
  ev_call h fun H1 e Q q E => ⟨a, L, i, j, rfl, hp.mono e, ok, h1, h2, h3, q⟩
end
end LW

set_option maxHeartbeats 4000000
namespace LW
open PySem PySem.Spec PyProof.Rows L2 Evl LR
section
variable {K : PySem.W.Frag} {σ : L2.St} {H H' : Hp} {ta : TA} {te : TE} {t : TT}
/-- [e for i in range(a, b)], ints -/
theorem el_rng {j : Nat} {vs : List Nat} {a b : Nat} (g : Nat → Int) (h : EvA ta σ H [.int (a : Nat), .int (b : Nat)]) (h1 : a ≤ b) (h2 : b ≤ 40000) (hw : ∀ x, wipe ((wipe σ vs).set j (some x)) vs = wipe σ vs)
    (he : ∀ (i : Nat) H1, Ex H H1 → a ≤ i → i < b → Ev te ((wipe σ vs).set j (some (.int (i : Nat)))) H1 (.int (g i))) :
    EvL (tLc (iRng2 ta) (gName j) tYes te vs) σ H (iL ((List.range (b - a)).map fun i => g (a + i))) := by
  have z := el_lcR2 (j := j) (vs := vs) (t := tYes) (te := te) (fun _ => true) (fun i => V.int (g (a + i))) h (by omega) hw (fun i H1 e _ => et_yes) (fun i H1 e hi _ => by
    have e1 : ((a : Nat) : Int) + (i : Int) = ((a + i : Nat) : Int) := by omega
    rw [e1]
    exact he (a + i) H1 e (by omega) (by omega))
  rw [given_all, show ((b : Nat) : Int) - ((a : Nat) : Int) = ((b - a : Nat) : Int) by omega, Int.toNat_natCast] at z
  have e : iL ((List.range (b - a)).map fun i => g (a + i)) = (List.range (b - a)).map fun i => V.int (g (a + i)) := by
    unfold iL
    rw [List.map_map]
    rfl
  rw [e]
  exact z
/-- [e for i in range(b)], ints -/
theorem el_rng1 {j : Nat} {vs : List Nat} {b : Nat} (g : Nat → Int) (h : EvA ta σ H [.int (b : Nat)]) (h2 : b ≤ 40000) (hw : ∀ x, wipe ((wipe σ vs).set j (some x)) vs = wipe σ vs)
    (he : ∀ (i : Nat) H1, Ex H H1 → i < b → Ev te ((wipe σ vs).set j (some (.int (i : Nat)))) H1 (.int (g i))) :
    EvL (tLc (iRng1 ta) (gName j) tYes te vs) σ H (iL ((List.range b).map g)) := by
  have z := el_lcR1 (j := j) (vs := vs) (t := tYes) (te := te) (fun _ => true) (fun i => V.int (g i)) h (by omega) hw (fun i H1 e _ => et_yes) (fun i H1 e hi _ => he i H1 e (by omega))
  rw [given_all, Int.toNat_natCast] at z
  have e : iL ((List.range b).map g) = (List.range b).map fun i => V.int (g i) := by
    unfold iL
    rw [List.map_map]
    rfl
  rw [e]
  exact z
/-- within a comprehension: the written part named -/
theorem ixT {X : Cx} (K : PySem.W.Frag) (h : X.K = K := by rfl) : IxR X (rIxT K) := h ▸ ix_tup
theorem ixL {X : Cx} (K : PySem.W.Frag) (h : X.K = K := by rfl) : IxR X (rIxL K) := h ▸ ix_list
theorem slT {X : Cx} (K : PySem.W.Frag) (h : X.K = K := by rfl) : SlR X (rSlA K) := h ▸ sl_tupA
theorem sumT {X : Cx} (K : PySem.W.Frag) (hc : X.calm = true) (h : X.K = K := by rfl) : CallR X (.builtin "sum") (rSumT K) := h ▸ cr_sumT hc
theorem lenS {X : Cx} (K : PySem.W.Frag) (h : X.K = K := by rfl) : CallR X (.builtin "len") (rLenS K) := h ▸ call_len_seq
theorem isiK {X : Cx} (K : PySem.W.Frag) (h : X.K = K := by rfl) : CallR X (.builtin "isinstance") (rIsi K) := h ▸ call_isi
theorem rv_mulR {x y : Int} (h : InE y) : RV (rI CMul fun i j => .int (i * j)) (.int x) (.int y) H (.int (x * y)) := rv_I (.inr ⟨by have := h.1; omega, by have := h.2; omega⟩)
end
section
variable {P : Program} {w : World} {K : PySem.W.Frag} {mg : Str → Option Value} {base : Heap}
/-! ### lot_cost -/
abbrev sLot : Stmt := top 22
abbrev nLot : List Str := ["problem", "start", "end", "at"]
theorem scLot : FnScope nLot ["problem", "start", "end"] (defScope sLot) := ⟨rfl, rfl, rfl, by decide +kernel, rfl, by decide +kernel, by decide +kernel⟩
def spLot (K : PySem.W.Frag) : Sp := fun vs H Q _ => ∃ a L, ∃ (i j : Nat), vs = [.ref a, .int i, .int j] ∧ At K H a L ∧ L.Ok ∧ i < j ∧ j ≤ L.n ∧ ∀ H', Ex H H' → Q (.int (LP.lot L.pb i j)) H'
theorem ok_lot (D : DefAt K mg "lot_cost" sLot) (T : Bts mg) (GK : Gd P w K mg base 1 "kept" ["problem", "start", "goal"] (spKept K)) : Gd P w K mg base 2 "lot_cost" ["problem", "start", "end"] (spLot K) := by
  refine gd_of D scLot (fun vs H Q E h => ?_) (fun _ _ _ _ _ _ us hl => match us, hl with | [_, _, _], _ => rfl) fun f cdv A outer s H vs Q E hr h => ?_
  · obtain ⟨a, L, i, j, rfl, _⟩ := h
    rfl
  · obtain ⟨a, L, i, j, rfl, hp, ok, h1, h2, k⟩ := h
    refine ⟨_, pss_cons (ps_if (pt_cmpR op_eq (pe_callB (cr_sumT rfl) (by rfl) T.sum (by decide +kernel) (pa_cons (pe_slice sl_tupA (pe_ix ix_tup (pv 0) pe_int (fun _ _ => rfl)) (po_some (pv 1)) (po_some (pv 2))) pa_nil)) pe_int (nomark _))
        (pss_one (ps_ret pe_int)) pss_nil)
      (pss_one (ps_ret (pe_op op_add (pe_ix ix_tup (pe_ix ix_tup (pv 0) pe_int (fun _ _ => rfl)) (pv 1) (fun _ _ => rfl))
        (pe_callB (cr_sum rfl) (by rfl) T.sum (by decide +kernel) (pa_cons
          (pe_lc (own := [("at", 3)]) (g := gName 3) (tt := tYes) rfl scLot.nd (pi_range2 rfl T.range (pa_cons (pv 1) (pa_cons (pv 2) pa_nil))) (blkOk_by (N := nLot) (sc := defScope sLot) (by decide +kernel))
            (fun _ _ _ _ _ => pg_name (i := 3) scLot.nd rfl (Or.inl rfl)) (fun _ _ _ _ _ => pts_nil)
            (fun _ _ _ _ _ => pe_op op_mul (pe_go GK hr (by rfl) (pa_cons (pv 0) (pa_cons (pv 1) (pa_cons (pv 3) pa_nil)))) (pe_ix (ixT K) (pe_ix (ixT K) (pv 0) pe_int (fun _ _ => rfl)) (pv 3) (fun _ _ => rfl))))
          pa_nil))))), ?_⟩
    refine q_when (et_test (ev_op (ev_seg (part0 (ev_var rfl) hp) (ev_var rfl) (ev_var rfl) (by omega) h2) ev_c (rv_eq rfl))) (fun hb H1 e1 => ?_) fun hb H1 e1 => ?_
    · have e0 : LP.seg (gd L.d) i j = 0 := V.int.inj (of_decide_eq_true hb)
      refine s_ret ev_c fun H2 e2 => ?_
      have := k H2 (e1.trans e2)
      unfold LP.lot at this
      rw [if_pos (show LP.seg L.pb.d i j = 0 from e0)] at this
      exact this
    · have e0 : ¬ LP.seg (gd L.d) i j = 0 := fun z => of_decide_eq_false hb (congrArg V.int z)
      have hp1 := hp.mono e1
      refine s_ret (ev_op (ev_gd (part1 (ev_var rfl) hp1) (ev_var rfl) (by rw [ok.ls]; omega)) (ev_sumL (el_rng (a := i) (b := j) (fun t => LP.kept L.pb i t * gd L.d t) (ea_cons (ev_var rfl) (ea_cons (ev_var rfl) ea_nil)) (by omega) (by have := ok.n12; omega) (fun x => rfl) fun t H2 e2 ht1 ht2 => ?_)) rv_I0) fun H2 e2 => ?_
      · have hp2 := hp1.mono e2
        exact ev_op (ev_kept (ea_cons (ev_var rfl) (ea_cons (ev_var rfl) (ea_cons (ev_var rfl) ea_nil))) hp2 ok ht1 (by omega) (by omega)) (ev_gd (part0 (ev_var rfl) hp2) (ev_var rfl) (show t < L.n by omega)) (rv_mulR (gd_in ok.ed t))
      have := k H2 (e1.trans e2)
      unfold LP.lot at this
      rw [if_neg (show ¬ LP.seg L.pb.d i j = 0 from e0)] at this
      rw [sum_range (fun t => LP.kept L.pb i t * gd L.d t)]
      exact this
theorem ev_lot {σ : L2.St} {H : Hp} {t : TA} {a : Addr} {L : Pl} {i j : Nat} (h : EvA t σ H [.ref a, .int i, .int j]) (hp : At K H a L) (ok : L.Ok) (h1 : i < j) (h2 : j ≤ L.n) : Ev (tCall (spLot K) [] E0 t) σ H (.int (LP.lot L.pb i j)) :=
  ev_call h fun H1 e Q q E => ⟨a, L, i, j, rfl, hp.mono e, ok, h1, h2, q⟩
end
end LW

set_option maxHeartbeats 4000000
namespace LW
open PySem PySem.Spec PyProof.Rows L2 Evl LR
theorem iL_snoc (l : List Int) (x : Int) : iL l ++ [V.int x] = iL (l ++ [x]) := by
  unfold iL
  rw [List.map_append]
  rfl
theorem nat_succ (i : Nat) : ((i : Nat) : Int) + 1 = ((i + 1 : Nat) : Int) := by omega
theorem one_nat (i : Nat) : (1 : Int) + ((i : Nat) : Int) = ((i + 1 : Nat) : Int) := by omega
section
variable {P : Program} {w : World} {K : PySem.W.Frag} {mg : Str → Option Value} {base : Heap}
/-! ### stages -/
abbrev sStg : Stmt := top 23
abbrev nStg : List Str := ["problem", "found", "end", "start"]
theorem scStg : FnScope nStg ["problem"] (defScope sStg) := ⟨rfl, rfl, rfl, by decide +kernel, rfl, by decide +kernel, by decide +kernel⟩
def spStg (K : PySem.W.Frag) : Sp := fun vs H Q _ => ∃ a L, vs = [.ref a] ∧ At K H a L ∧ L.Ok ∧ ∀ p H', H p = none → Ex H H' → H' p = some (.lst (iL (LP.stg L.pb L.n))) → Q (.ref p) H'
theorem ok_stg (D : DefAt K mg "stages" sStg) (T : Bts mg) (GP : Gd P w K mg base 1 "periods_of" ["problem"] (spPer K)) (GL : Gd P w K mg base 2 "lot_cost" ["problem", "start", "end"] (spLot K)) : Gd P w K mg base 3 "stages" ["problem"] (spStg K) := by
  refine gd_of D scStg (fun vs H Q E h => ?_) (fun _ _ _ _ _ _ us hl => match us, hl with | [_], _ => rfl) fun f cdv A outer s H vs Q E hr h => ?_
  · obtain ⟨a, L, rfl, _⟩ := h
    rfl
  · obtain ⟨a, L, rfl, hp, ok, k⟩ := h
    have hr1 : Room 1 _ := hr.mono (by decide)
    refine ⟨_, pss_cons (ps_set (i := 1) scStg.nd rfl (Or.inr rfl) (pe_lst (pa_cons pe_int pa_nil)))
      (pss_cons (ps_for PassesOwn.never rfl (pi_range2 rfl T.range (pa_cons pe_int (pa_cons (pe_op op_add (pe_go GP hr1 (by rfl) (pa_cons (pv 0) pa_nil)) pe_int) pa_nil))) (pg_name (i := 2) scStg.nd rfl (Or.inr rfl))
        (pss_one (ps_expr (pe_bm PySem.F.plainAttrs_list PySem.F.slot_list_append PySem.F.type_list_append mt_append (pv 1) (pa_cons
          (pe_callB (cr_min rfl) (by rfl) T.min (by decide +kernel) (pa_cons
            (pe_lc (own := [("start", 3)]) (g := gName 3) (tt := tYes) rfl scStg.nd (pi_range1 rfl T.range (pa_cons (pv 2) pa_nil)) (blkOk_by (N := nStg) (sc := defScope sStg) (by decide +kernel))
              (fun _ _ _ _ _ => pg_name (i := 3) scStg.nd rfl (Or.inl rfl)) (fun _ _ _ _ _ => pts_nil)
              (fun _ _ _ _ _ => pe_op op_add (pe_ix (ixL K) (pv 1) (pv 3) (fun _ _ => rfl)) (pe_go GL hr (by rfl) (pa_cons (pv 0) (pa_cons (pv 3) (pa_cons (pv 2) pa_nil)))))) pa_nil)) pa_nil)))))
      (pss_one (ps_ret (pv 1)))), ?_⟩
    refine q_asgL (el_lst (ea_cons ev_c ea_nil) (by decide)) fun p H1 np e1 hl => ?_
    have hp1 := hp.mono e1
    refine q_forR2 (lo := 1) (n := ((L.n + 1 : Nat) : Int)) (ea_cons ev_c (ea_cons (ev_is (ev_op (ev_per (ea_cons (ev_var rfl) ea_nil) hp1) ev_c rv_I0) (by rw [nat_succ])) ea_nil)) (by have := ok.n12; omega)
      (fun i σ' H' => ∃ v, σ' = [some (.ref a), some (.ref p), v, none] ∧ Ex H H' ∧ H' p = some (.lst (iL (LP.stg L.pb i)))) (fun H2 e2 => ⟨none, rfl, e1.trans e2, e2 p _ hl⟩) (fun i σ' H' hi hP => ?_) fun σ' H' hP => ?_
    · obtain ⟨v, rfl, e2, hl2⟩ := hP
      have hi' : i < L.n := by omega
      have F := LP.stg_ok L.pb i
      have hp2 := hp.mono e2
      rw [one_nat]
      refine s_app hl2 (ev_var rfl) (ev_minL (ns := LP.stgRow L.pb (LP.stg L.pb i) (i + 1) (i + 1)) (el_rng1 (b := i + 1) (fun t => (LP.stg L.pb i).getD t 0 + LP.lot L.pb t (i + 1)) (ea_cons (ev_var rfl) ea_nil) (by have := ok.n12; omega) (fun x => rfl) fun t H3 e3 ht => ?_) (fun z => ?_)) ?_ fun H3 e3 => ?_
      · have hp3 := hp2.mono e3
        exact ev_op (ev_ixL (ev_var rfl) (sq_of (e3 p _ hl2)) (ev_var rfl) (at_gd (by rw [F.len]; exact ht))) (ev_lot (ea_cons (ev_var rfl) (ea_cons (ev_var rfl) (ea_cons (ev_var rfl) ea_nil))) hp3 ok ht (by omega)) rv_I0
      · have := congrArg List.length z
        unfold LP.stgRow at this
        rw [List.length_map, List.length_range] at this
        cases this
      · rw [List.length_map, F.len]
        have := ok.n12
        omega
      · refine ⟨some (.int ((i + 1 : Nat) : Int)), rfl, Ex.mut (e2.trans e3) np, ?_⟩
        rw [upd_same, iL_snoc]
        rfl
    · obtain ⟨v, rfl, e2, hl2⟩ := hP
      have e : (((L.n + 1 : Nat) : Int) - 1).toNat = L.n := by omega
      rw [e] at hl2
      exact s_ret (ev_var rfl) fun H2 e3 => k p H2 np (e2.trans e3) (e3 p _ hl2)
theorem el_stg {σ : L2.St} {H : Hp} {t : TA} {a : Addr} {L : Pl} (h : EvA t σ H [.ref a]) (hp : At K H a L) (ok : L.Ok) : EvL (tCall (spStg K) [] E0 t) σ H (iL (LP.stg L.pb L.n)) :=
  el_call h fun H1 e Q q E => ⟨a, L, rfl, hp.mono e, ok, q⟩
end
end LW

set_option maxHeartbeats 4000000
namespace LW
open PySem PySem.Spec PyProof.Rows L2 Evl LR
section
variable {P : Program} {w : World} {K : PySem.W.Frag} {mg : Str → Option Value} {base : Heap}
/-! ### last_starts_in -/
abbrev sLst : Stmt := top 24
abbrev nLst : List Str := ["problem", "costs", "found", "end", "fits", "start"]
theorem scLst : FnScope nLst ["problem"] (defScope sLst) := ⟨rfl, rfl, rfl, by decide +kernel, rfl, by decide +kernel, by decide +kernel⟩
/-- a list of lists of starts -/
def Lasts (H : Hp) (p : Addr) (L : Pl) (m : Nat) : Prop := ∃ as : List Addr, H p = some (.lst (as.map V.ref)) ∧ as.length = m ∧ ∀ j, j < m → ∃ b, as[j]? = some b ∧ H b = some (.lst (nums (LP.lastOf L.pb (LP.stg L.pb L.n) (j + 1)))) ∧ b ≠ p
theorem Lasts.mono {H H' : Hp} {p : Addr} {L : Pl} {m : Nat} (e : Ex H H') (h : Lasts H p L m) : Lasts H' p L m := by
  obtain ⟨as, h1, h2, h3⟩ := h
  refine ⟨as, e p _ h1, h2, fun j hj => ?_⟩
  obtain ⟨b, g1, g2, g3⟩ := h3 j hj
  exact ⟨b, g1, e b _ g2, g3⟩
def spLst (K : PySem.W.Frag) : Sp := fun vs H Q _ => ∃ a L, vs = [.ref a] ∧ At K H a L ∧ L.Ok ∧ ∀ p H', H p = none → Ex H H' → Lasts H' p L L.n → Q (.ref p) H'
theorem ok_lst (D : DefAt K mg "last_starts_in" sLst) (T : Bts mg) (GP : Gd P w K mg base 1 "periods_of" ["problem"] (spPer K)) (GL : Gd P w K mg base 2 "lot_cost" ["problem", "start", "end"] (spLot K)) (GS : Gd P w K mg base 3 "stages" ["problem"] (spStg K)) :
    Gd P w K mg base 4 "last_starts_in" ["problem"] (spLst K) := by
  refine gd_of D scLst (fun vs H Q E h => ?_) (fun _ _ _ _ _ _ us hl => match us, hl with | [_], _ => rfl) fun f cdv A outer s H vs Q E hr h => ?_
  · obtain ⟨a, L, rfl, _⟩ := h
    rfl
  · obtain ⟨a, L, rfl, hp, ok, k⟩ := h
    have hr1 : Room 1 _ := hr.mono (by decide)
    have hr2 : Room 2 _ := hr.mono (by decide)
    refine ⟨_, pss_cons (ps_asg (pe_tup (pa_cons (pe_go GS hr (by rfl) (pa_cons (pv 0) pa_nil)) (pa_cons (pe_lst pa_nil) pa_nil))) (pg_tup rfl (pgs_cons (pg_name (i := 1) scLst.nd rfl (Or.inr rfl)) (pgs_cons (pg_name (i := 2) scLst.nd rfl (Or.inl rfl)) pgs_nil))))
      (pss_cons (ps_for PassesOwn.never rfl (pi_range2 rfl T.range (pa_cons pe_int (pa_cons (pe_op op_add (pe_go GP hr1 (by rfl) (pa_cons (pv 0) pa_nil)) pe_int) pa_nil))) (pg_name (i := 3) scLst.nd rfl (Or.inr rfl))
        (pss_cons (ps_setLc (i := 4) (own := [("start", 5)]) (g := gName 5) rfl scLst.nd rfl rfl (sw_true rfl rfl rfl (by decide +kernel)) (pi_range1 rfl T.range (pa_cons (pv 3) pa_nil)) (blkOk_by (N := nLst) (sc := defScope sLst) (by decide +kernel))
            (fun _ _ _ _ _ => pg_name (i := 5) scLst.nd rfl (Or.inl rfl))
            (fun _ _ _ _ _ => pts_one (pt_cmpR op_eq (pe_op op_add (pe_ix (ixL K) (pv 1) (pv 5) (fun _ _ => rfl)) (pe_go GL hr2 (by rfl) (pa_cons (pv 0) (pa_cons (pv 5) (pa_cons (pv 3) pa_nil))))) (pe_ix (ixL K) (pv 1) (pv 3) (fun _ _ => rfl)) (nomark _)))
            (fun _ _ _ _ _ => pv 5))
        (pss_one (ps_expr (pe_bm PySem.F.plainAttrs_list PySem.F.slot_list_append PySem.F.type_list_append mt_append (pv 2) (pa_cons (pv 4) pa_nil))))))
      (pss_one (ps_ret (pv 2)))), ?_⟩
    refine (el_stg (ea_cons (ev_var rfl) ea_nil) hp ok) H (Ex.refl H) _ fun c H1 nc e1 hc => ⟨Nat.zero_le _, fun q nq => ⟨by show 2 ≤ sizeLine; decide, fun t nt => ?_⟩⟩
    have hp1 := hp.mono e1
    have ntc : t ≠ c := fun z => by
      subst z
      rw [upd_ne (ne_of_none hc nq), hc] at nt
      cases nt
    have ntq : t ≠ q := fun z => by
      subst z
      rw [upd_same] at nt
      cases nt
    have nqc : q ≠ c := fun z => by
      subst z
      rw [hc] at nq
      cases nq
    refine ⟨t, _, rfl, st_of upd_same, rfl, _, _, rfl, _, _, rfl, rfl, ?_⟩
    generalize hH2 : upd (upd H1 q (HO.lst [])) t (HO.tup [V.ref c, V.ref q]) = H2
    have e12 : Ex H1 H2 := by
      rw [← hH2]
      exact (Ex.new nq).trans (Ex.new nt)
    have hc2 : H2 c = some (.lst (iL (LP.stg L.pb L.n))) := e12 c _ hc
    have hq2 : H2 q = some (.lst []) := by
      rw [← hH2, upd_ne ntq.symm, upd_same]
    have nq0 : H q = none := fresh_back e1 nq
    have hp2 := hp1.mono e12
    have F := LP.stg_ok L.pb L.n
    refine q_forR2 (lo := 1) (n := ((L.n + 1 : Nat) : Int)) (ea_cons ev_c (ea_cons (ev_is (ev_op (ev_per (ea_cons (ev_var rfl) ea_nil) hp2) ev_c rv_I0) (by rw [nat_succ])) ea_nil)) (by have := ok.n12; omega)
      (fun i σ' H' => ∃ v v4, σ' = [some (.ref a), some (.ref c), some (.ref q), v, v4, none] ∧ Ex H H' ∧ H' c = some (.lst (iL (LP.stg L.pb L.n))) ∧ Lasts H' q L i) (fun H3 e3 => ⟨none, none, rfl, (e1.trans e12).trans e3, e3 c _ hc2, [], e3 q _ hq2, rfl, fun j hj => by omega⟩) (fun i σ' H' hi hP => ?_) fun σ' H' hP => ?_
    · obtain ⟨v, v4, rfl, e2, hc3, hL⟩ := hP
      have hi' : i < L.n := by omega
      have hp3 := hp.mono e2
      have n12 := ok.n12
      rw [one_nat]
      refine q_asgL (el_lcR1 (n := ((i + 1 : Nat) : Int)) (fun t => decide ((LP.stg L.pb L.n).getD t 0 + LP.lot L.pb t (i + 1) = (LP.stg L.pb L.n).getD (i + 1) 0)) (fun t => V.int (t : Nat)) (ea_cons (ev_var rfl) ea_nil) (by omega) (fun x => rfl) (fun t H3 e3 ht => ?_) (fun t H3 e3 ht _ => ev_var rfl)) fun b H3 nb e3 hb => ?_
      · have hp4 := hp3.mono e3
        have hc4 := e3 c _ hc3
        refine et_is (et_test (ev_op (ev_op (ev_ixL (ev_var rfl) (sq_of hc4) (ev_var rfl) (at_gd (i := t) (by rw [F.len]; omega))) (ev_lot (i := t) (j := i + 1) (ea_cons (ev_var rfl) (ea_cons (ev_var rfl) (ea_cons (ev_var rfl) ea_nil))) hp4 ok (by omega) (by omega)) rv_I0) (ev_ixL (ev_var rfl) (sq_of hc4) (ev_var rfl) (at_gd (i := i + 1) (by rw [F.len]; omega))) (rv_eq rfl))) ?_
        exact decide_eq_decide.mpr ⟨fun z => V.int.inj z, fun z => congrArg V.int z⟩
      · obtain ⟨as, g1, g2, g3⟩ := hL
        have hbq : b ≠ q := fun z => by
          subst z
          rw [g1] at nb
          cases nb
        refine s_app (e3 q _ g1) (ev_var rfl) (ev_var rfl) (by rw [List.length_map]; omega) fun H4 e4 => ?_
        refine ⟨_, some (.ref b), rfl, Ex.mut ((e2.trans e3).trans e4) nq0, ?_, as ++ [b], ?_, by rw [List.length_append, g2]; rfl, fun j hj => ?_⟩
        · rw [upd_ne nqc.symm]
          exact e4 c _ (e3 c _ hc3)
        · rw [upd_same, List.map_append]
          rfl
        · by_cases hji : j = i
          · subst hji
            refine ⟨b, ?_, ?_, hbq⟩
            · rw [← g2, List.getElem?_append_right (Nat.le_refl _), Nat.sub_self]
              rfl
            · rw [upd_ne hbq]
              have hb4 := e4 b _ hb
              rw [Int.toNat_natCast] at hb4
              exact hb4
          · obtain ⟨b', k1, k2, k3⟩ := g3 j (by omega)
            refine ⟨b', ?_, ?_, k3⟩
            · rw [List.getElem?_append_left (by omega)]
              exact k1
            · rw [upd_ne k3]
              exact e4 b' _ (e3 b' _ k2)
    · obtain ⟨v, v4, rfl, e2, _, hL⟩ := hP
      have e : (((L.n + 1 : Nat) : Int) - 1).toNat = L.n := by omega
      rw [e] at hL
      exact s_ret (ev_var rfl) fun H3 e3 => k q H3 nq0 (e2.trans e3) (hL.mono e3)
end
end LW

set_option maxHeartbeats 4000000
namespace LW
open PySem PySem.Spec PyProof.Rows L2 Evl LR RZ
section
variable {K : PySem.W.Frag} {σ : L2.St} {H H' : Hp} {ta tb te tl : TE} {t : TT} {D : Ends} {tu tz : TS}
/-! ### loops over enumerate and zip -/
theorem s_forEn {q : Addr} {xs : List V} {j1 j2 : Nat} (h : Ev tl σ H (.ref q)) (hx : SqT K H q xs) (Pv : Nat → L2.St → Hp → Prop) (h0 : ∀ H1, Ex H H1 → Pv 0 σ H1) (hl : ∀ i σ' H', i ≤ xs.length → Pv i σ' H' → SqT K H' q xs)
    (hs : ∀ i x σ' H', xs[i]? = some x → Pv i σ' H' → ∀ H2, Ex H' H2 → tu { D with nx := Pv (i + 1), ct := Pv (i + 1), bk := D.nx } ((σ'.set j1 (some (.int (i : Nat)))).set j2 (some x)) H2) (hd : ∀ σ' H', Pv xs.length σ' H' → D.nx σ' H') :
    tFor (iEnumT K (tCons tl tNil)) (gTup K 2 (gCons (gName j1) (gCons (gName j2) gNil))) tu D σ H :=
  h H (Ex.refl H) _ fun H1 e => ⟨q, xs, rfl, ex_t e hx, for_it walk_enumT Pv (h0 H1 e) hl (fun i v σ' H' H'' hi p y => by
    obtain ⟨T, x, z, rfl, nT, rfl, e1, e2⟩ := y
    have ex : x = .int (i : Nat) := (Option.some.inj e1).symm
    subst ex
    exact ⟨T, _, rfl, st_of upd_same, rfl, _, _, rfl, _, _, rfl, rfl, hs i z σ' H' e2 p _ (Ex.new nT)⟩) hd⟩
theorem q_forEn {q : Addr} {xs : List V} {j1 j2 : Nat} (h : Ev tl σ H (.ref q)) (hx : SqT K H q xs) (Pv : Nat → L2.St → Hp → Prop) (h0 : ∀ H1, Ex H H1 → Pv 0 σ H1) (hl : ∀ i σ' H', i ≤ xs.length → Pv i σ' H' → SqT K H' q xs)
    (hs : ∀ i x σ' H', xs[i]? = some x → Pv i σ' H' → ∀ H2, Ex H' H2 → tu { D with nx := Pv (i + 1), ct := Pv (i + 1), bk := tz D } ((σ'.set j1 (some (.int (i : Nat)))).set j2 (some x)) H2) (hd : ∀ σ' H', Pv xs.length σ' H' → tz D σ' H') :
    tSeq (tFor (iEnumT K (tCons tl tNil)) (gTup K 2 (gCons (gName j1) (gCons (gName j2) gNil))) tu) tz D σ H := s_forEn (D := { D with nx := tz D }) h hx Pv h0 hl hs hd
/-- over a new list -/
theorem s_forEnL {xs : List V} {j1 j2 : Nat} (h : EvL tl σ H xs) (Pv : Addr → Nat → L2.St → Hp → Prop) (h0 : ∀ p H1, H p = none → Ex H H1 → H1 p = some (.lst xs) → Pv p 0 σ H1) (hl : ∀ p i σ' H', i ≤ xs.length → Pv p i σ' H' → SqL K H' p xs)
    (hs : ∀ p i x σ' H', xs[i]? = some x → Pv p i σ' H' → ∀ H2, Ex H' H2 → tu { D with nx := Pv p (i + 1), ct := Pv p (i + 1), bk := D.nx } ((σ'.set j1 (some (.int (i : Nat)))).set j2 (some x)) H2) (hd : ∀ p σ' H', Pv p xs.length σ' H' → D.nx σ' H') :
    tFor (iEnum K (tCons tl tNil)) (gTup K 2 (gCons (gName j1) (gCons (gName j2) gNil))) tu D σ H :=
  h H (Ex.refl H) _ fun p H1 hp e hx => ⟨p, xs, rfl, sq_of hx, for_it walk_enum (Pv p) (h0 p H1 hp e hx) (hl p) (fun i v σ' H' H'' hi pv y => by
    obtain ⟨T, x, z, rfl, nT, rfl, e1, e2⟩ := y
    have ex : x = .int (i : Nat) := (Option.some.inj e1).symm
    subst ex
    exact ⟨T, _, rfl, st_of upd_same, rfl, _, _, rfl, _, _, rfl, rfl, hs p i z σ' H' e2 pv _ (Ex.new nT)⟩) (hd p)⟩
theorem q_forEnL {xs : List V} {j1 j2 : Nat} (h : EvL tl σ H xs) (Pv : Addr → Nat → L2.St → Hp → Prop) (h0 : ∀ p H1, H p = none → Ex H H1 → H1 p = some (.lst xs) → Pv p 0 σ H1) (hl : ∀ p i σ' H', i ≤ xs.length → Pv p i σ' H' → SqL K H' p xs)
    (hs : ∀ p i x σ' H', xs[i]? = some x → Pv p i σ' H' → ∀ H2, Ex H' H2 → tu { D with nx := Pv p (i + 1), ct := Pv p (i + 1), bk := tz D } ((σ'.set j1 (some (.int (i : Nat)))).set j2 (some x)) H2) (hd : ∀ p σ' H', Pv p xs.length σ' H' → tz D σ' H') :
    tSeq (tFor (iEnum K (tCons tl tNil)) (gTup K 2 (gCons (gName j1) (gCons (gName j2) gNil))) tu) tz D σ H := s_forEnL (D := { D with nx := tz D }) h Pv h0 hl hs hd
theorem q_forZip {a b : Addr} {xs ys : List V} {j1 j2 : Nat} (ha : Ev ta σ H (.ref a)) (hb : Ev tb σ H (.ref b)) (hx : SqT K H a xs) (hy : SqT K H b ys) (hn : xs.length = ys.length) (Pv : Nat → L2.St → Hp → Prop) (h0 : ∀ H1, Ex H H1 → Pv 0 σ H1)
    (hl : ∀ i σ' H', Pv i σ' H' → SqT K H' a xs ∧ SqT K H' b ys)
    (hs : ∀ (i : Nat) x y σ' H', xs[i]? = some x → ys[i]? = some y → Pv i σ' H' → ∀ H2, Ex H' H2 → tu { D with nx := Pv (i + 1), ct := Pv (i + 1), bk := tz D } ((σ'.set j1 (some x)).set j2 (some y)) H2) (hd : ∀ σ' H', Pv xs.length σ' H' → tz D σ' H') :
    tSeq (tFor (iZipA K (tCons ta (tCons tb tNil))) (gTup K 2 (gCons (gName j1) (gCons (gName j2) gNil))) tu) tz D σ H :=
  ha H (Ex.refl H) _ fun H1 e1 => hb H1 e1 _ fun H2 e2 => ⟨a, b, xs, ys, rfl, .inr ⟨ex_t (e1.trans e2) hx, ex_t (e1.trans e2) hy, for_zipT (D := { D with nx := tz D }) hn Pv (h0 H2 (e1.trans e2)) hl (fun i x y T σ' H' h1 h2 p nT =>
    ⟨T, _, rfl, st_of upd_same, rfl, _, _, rfl, _, _, rfl, rfl, hs i x y σ' H' h1 h2 p _ (Ex.new nT)⟩) hd⟩⟩
/-- all but the object at p stays -/
def ExB (p : Addr) (H H' : Hp) : Prop := ∀ b o, b ≠ p → H b = some o → H' b = some o
theorem ExB.upd {p : Addr} {H H1 : Hp} {o : HO} (e : Ex H H1) : ExB p H (upd H1 p o) := fun b u hb hu => by
  rw [upd_ne hb]
  exact e b u hu
theorem exb_t {p q : Addr} {H H' : Hp} {xs ys : List V} (e : ExB p H H') (hp : H p = some (.lst ys)) (h : SqT K H q xs) : SqT K H' q xs := by
  rcases h with (h | ⟨o, h⟩) | h
  · exact .inl (.inl (e q _ (ne_of h hp fun z => nomatch z) h))
  · exact .inl (.inr ⟨o, e q _ (ne_of h hp fun z => nomatch z) h⟩)
  · exact .inr h
/-- a list times a number -/
theorem el_rep {xs : List V} {n : Nat} (ha : EvL ta σ H xs) (hb : ∀ H1, Ex H H1 → Ev tb σ H1 (.int (n : Nat))) (hn : n ≤ 1000) (hz : xs.length ≤ 10) : EvL (tOp rRep ta tb) σ H (List.replicate n xs).flatten := fun H1 e Q q =>
  ha H1 e _ fun p H2 np e2 hp => hb H2 (e.trans e2) H2 (Ex.refl H2) _ fun H3 e3 => ⟨p, (n : Nat), xs, rfl, rfl, e3 p _ hp, by omega, by omega, by
    rw [Int.toNat_natCast]
    exact sz_of (Nat.le_trans (Nat.mul_le_mul hz hn) (by decide)), fun l hl => by
    have h1 : H2 l = none := fresh_back e3 hl
    rw [Int.toNat_natCast]
    exact q l _ (fresh_back e2 h1) ((e2.trans e3).trans (Ex.new hl)) upd_same⟩
end
section
variable {P : Program} {w : World} {K : PySem.W.Frag} {mg : Str → Option Value} {base : Heap}
/-! ### filled -/
abbrev sFil : Stmt := top 19
abbrev nFil : List Str := ["problem", "told", "found", "at", "start", "end"]
theorem scFil : FnScope nFil ["problem", "told"] (defScope sFil) := ⟨rfl, rfl, rfl, by decide +kernel, rfl, by decide +kernel, by decide +kernel⟩
def spFil (K : PySem.W.Frag) : Sp := fun vs H Q _ => ∃ a b L t, vs = [.ref a, .ref b] ∧ At K H a L ∧ L.Ok ∧ SqT K H b (nums t) ∧ t.Pairwise (· < ·) ∧ (∀ x ∈ t, x < L.n) ∧
  ∀ p H', H p = none → Ex H H' → H' p = some (.tup (iL (LP.planL L.pb t))) → Q (.ref p) H'
theorem rep1 (n : Nat) : (List.replicate n [V.int 0]).flatten = iL (List.replicate n 0) := by
  induction n with
  | zero => rfl
  | succ n ih =>
    rw [List.replicate_succ, List.flatten_cons, ih, List.replicate_succ]
    rfl
theorem nums_at {t : List Nat} {i x : Nat} (h : t[i]? = some x) : (nums t)[i]? = some (.int (x : Nat)) := by
  unfold nums
  rw [List.getElem?_map, h]
  rfl
theorem nums_len (t : List Nat) : (nums t).length = t.length := by
  unfold nums
  rw [List.length_map]
theorem of_nums {t : List Nat} {i : Nat} {v : V} (h : (nums t)[i]? = some v) : ∃ x, t[i]? = some x ∧ v = .int (x : Nat) := by
  unfold nums at h
  rw [List.getElem?_map] at h
  cases e : t[i]? with
  | none => rw [e] at h; cases h
  | some x =>
    rw [e] at h
    exact ⟨x, rfl, (Option.some.inj h).symm⟩
theorem set_iL (l : List Int) (i : Nat) (x : Int) : (iL l).set i (.int x) = iL (l.set i x) := by
  unfold iL
  rw [List.map_set]
theorem asc_len : ∀ {t : List Nat} {n : Nat}, t.Pairwise (· < ·) → (∀ x ∈ t, x < n) → t.length ≤ n := by
  intro t
  have gen : ∀ (t : List Nat) (m n : Nat), t.Pairwise (· < ·) → (∀ x ∈ t, m ≤ x ∧ x < n) → t.length ≤ n - m := by
    intro t
    induction t with
    | nil => intro m n _ _; exact Nat.zero_le _
    | cons y r ih =>
      intro m n hp hb
      have h1 := List.pairwise_cons.mp hp
      have hy := hb y List.mem_cons_self
      have := ih (y + 1) n h1.2 fun x hx => ⟨h1.1 x hx, (hb x (List.mem_cons_of_mem _ hx)).2⟩
      rw [List.length_cons]
      omega
  intro n hp hb
  have := gen t 0 n hp fun x hx => ⟨Nat.zero_le _, hb x hx⟩
  omega
theorem ok_fil (D : DefAt K mg "filled" sFil) (T : Bts mg) (GP : Gd P w K mg base 1 "periods_of" ["problem"] (spPer K)) : Gd P w K mg base 2 "filled" ["problem", "told"] (spFil K) := by
  refine gd_of D scFil (fun vs H Q E h => ?_) (fun _ _ _ _ _ _ us hl => match us, hl with | [_, _], _ => rfl) fun f cdv A outer s H vs Q E hr h => ?_
  · obtain ⟨a, b, L, t, rfl, _⟩ := h
    rfl
  · obtain ⟨a, b, L, t, rfl, hp, ok, ht, asc, bd, k⟩ := h
    refine ⟨_, pss_cons (ps_set (i := 2) scFil.nd rfl (Or.inl rfl) (pe_op op_rep (pe_lst (pa_cons pe_int pa_nil)) (pe_go GP hr (by rfl) (pa_cons (pv 0) pa_nil))))
      (pss_cons (ps_for PassesOwn.never rfl (pi_enumT rfl T.enum (pa_cons (pv 1) pa_nil)) (pg_tup rfl (pgs_cons (pg_name (i := 3) scFil.nd rfl (Or.inl rfl)) (pgs_cons (pg_name (i := 4) scFil.nd rfl (Or.inl rfl)) pgs_nil)))
        (pss_cons (ps_set (i := 5) scFil.nd rfl (Or.inl rfl) (pe_ifExp (pt_cmpR op_lt (pe_op op_add (pv 3) pe_int) (pe_callB call_len_seq (by rfl) T.len PySem.boot_len (pa_cons (pv 1) pa_nil)) (nomark _))
            (pe_ix ix_tup (pv 1) (pe_op op_add (pv 3) pe_int) (fun _ _ => rfl)) (pe_go GP hr (by rfl) (pa_cons (pv 0) pa_nil))))
        (pss_one (ps_asg (pe_callB (cr_sumT rfl) (by rfl) T.sum (by decide +kernel) (pa_cons (pe_slice sl_tupA (pe_ix ix_tup (pv 0) pe_int (fun _ _ => rfl)) (po_some (pv 4)) (po_some (pv 5))) pa_nil)) (pg_sub (pv 2) (pv 4) set_list)))))
      (pss_one (ps_ret (pe_callTy call_tuple_of (by rfl) T.tuple PyProof.Rows.boot_tuple (pa_cons (pv 2) pa_nil))))), ?_⟩
    have n12 := ok.n12
    refine q_asgL (el_rep (n := L.n) (el_lst (ea_cons ev_c ea_nil) (by decide)) (fun H1 e1 => ev_per (ea_cons (ev_var rfl) ea_nil) (hp.mono e1)) (by omega) (by decide)) fun p H1 np e1 hl => ?_
    rw [rep1] at hl
    have hz : LP.fillL L.pb t 0 = List.replicate L.n 0 := LP.fill_zero L.pb t
    rw [← hz] at hl
    refine q_forEn (ev_var rfl) (ex_t e1 ht) (fun i σ' H' => ∃ v3 v4 v5, σ' = [some (.ref a), some (.ref b), some (.ref p), v3, v4, v5] ∧ Ex H H' ∧ H' p = some (.lst (iL (LP.fillL L.pb t i))))
      (fun H2 e2 => ⟨none, none, none, rfl, e1.trans e2, e2 p _ hl⟩) (fun i σ' H' _ hP => ex_t hP.choose_spec.choose_spec.choose_spec.2.1 ht) (fun i x σ' H' hx hP H2 e2 => ?_) fun σ' H' hP => ?_
    · obtain ⟨v3, v4, v5, rfl, e3, hl3⟩ := hP
      obtain ⟨y, hy, rfl⟩ := of_nums hx
      have hp2 := hp.mono (e3.trans e2)
      have ht2 : SqT K H2 b (nums t) := ex_t (e3.trans e2) ht
      have hxl := bd y (List.mem_of_getElem? hy)
      have hil : i < t.length := (List.getElem?_eq_some_iff.mp hy).1
      have hend : ∃ m : Nat, (t.drop (i + 1)).headD L.n = m ∧ y ≤ m ∧ m ≤ L.n := by
        refine ⟨_, rfl, ?_⟩
        rw [LP.headD_at]
        split
        · rename_i h
          have h1 := bd t[i + 1] (List.getElem_mem h)
          have h2 : t[i] < t[i + 1] := List.pairwise_iff_getElem.mp asc i (i + 1) hil h (by omega)
          have h3 : t[i] = y := (List.getElem?_eq_some_iff.mp hy).2
          omega
        · omega
      obtain ⟨m, hm, hm1, hm2⟩ := hend
      refine q_asg (v := .int (m : Nat)) (ev_if (et_test (ev_op (ev_op (ev_var rfl) ev_c rv_I0) (ev_lenS (es_ref (ev_var rfl) ht2)) rv_I0)) (fun hb => ?_) fun hb => ?_) fun H3 e4 => ?_
      · have hb' : ((i : Nat) : Int) + 1 < ((nums t).length : Int) := of_decide_eq_true hb
        rw [nums_len] at hb'
        have hi1 : i + 1 < t.length := by omega
        refine ev_ixS (i := ((i + 1 : Nat) : Int)) (es_ref (ev_var rfl) ht2) (ev_is (ev_op (ev_var rfl) ev_c rv_I0) (by rw [nat_succ])) (atI_nat (nums_at ?_))
        rw [LP.headD_at, dif_pos hi1] at hm
        rw [List.getElem?_eq_getElem hi1, hm]
      · have hb' : ¬ ((i : Nat) : Int) + 1 < ((nums t).length : Int) := of_decide_eq_false hb
        rw [nums_len] at hb'
        rw [LP.headD_at, dif_neg (by omega)] at hm
        rw [← hm]
        exact ev_per (ea_cons (ev_var rfl) ea_nil) hp2
      · have hp3 := hp2.mono e4
        refine s_setL (l := p) (e4 p _ (e2 p _ hl3)) (ev_seg (part0 (ev_var rfl) hp3) (ev_var rfl) (ev_var rfl) hm1 (by show m ≤ L.n; exact hm2)) (ev_var rfl) (ev_var rfl) (by rw [List.length_map, LP.fillL_len]; exact hxl) fun H4 e5 => ?_
        refine ⟨_, _, _, rfl, Ex.mut ((e3.trans e2).trans (e4.trans e5)) np, ?_⟩
        rw [upd_same, set_iL]
        have hf := LP.fill_step L.pb asc hy
        rw [show (t.drop (i + 1)).headD L.pb.n = m from hm] at hf
        rw [← hf]
        rfl
    · obtain ⟨v3, v4, v5, rfl, e3, hl3⟩ := hP
      rw [nums_len, LP.fill_end] at hl3
      exact s_retU (eu_tupR (ev_var rfl) (sq_of hl3)) fun q H2 nq e4 hq => k q H2 (fresh_back e3 nq) (e3.trans e4) hq
end
end LW

set_option maxHeartbeats 4000000
namespace LW
open PySem PySem.Spec PyProof.Rows L2 Evl LR RZ
theorem rv_mulLe {H : Hp} {x y : Int} (h : InE x) : RV (rI CMul fun i j => .int (i * j)) (.int x) (.int y) H (.int (x * y)) := rv_I (.inl ⟨by have := h.1; omega, by have := h.2; omega⟩)
theorem of_iL {l : List Int} {i : Nat} {v : V} (h : (iL l)[i]? = some v) : i < l.length ∧ v = .int (gd l i) := by
  have hi : i < l.length := by
    have := (List.getElem?_eq_some_iff.mp h).1
    rw [List.length_map] at this
    exact this
  rw [iL_at hi] at h
  exact ⟨hi, (Option.some.inj h).symm⟩
theorem stk_snoc (d x : List Int) (i : Nat) : LP.stkL (i + 1) d x = LP.stkL i d x ++ [LP.sumF (fun u => LP.gI x u - LP.gI d u) 0 (i + 1)] := by
  unfold LP.stkL
  rw [List.range_succ, List.map_append]
  rfl
section
variable {P : Program} {w : World} {K : PySem.W.Frag} {mg : Str → Option Value} {base : Heap}
/-! ### stock_row -/
abbrev sStk : Stmt := top 15
abbrev nStk : List Str := ["demands", "amounts", "found", "stock", "amount", "demand"]
theorem scStk : FnScope nStk ["demands", "amounts"] (defScope sStk) := ⟨rfl, rfl, rfl, by decide +kernel, rfl, by decide +kernel, by decide +kernel⟩
def spStk (K : PySem.W.Frag) : Sp := fun vs H Q _ => ∃ a b d x, vs = [.ref a, .ref b] ∧ SqT K H a (iL d) ∧ SqT K H b (iL x) ∧ d.length = x.length ∧ d.length ≤ 12 ∧
  ∀ p H', H p = none → Ex H H' → H' p = some (.lst (iL (LP.stkL d.length d x))) → Q (.ref p) H'
theorem ok_stk (D : DefAt K mg "stock_row" sStk) (T : Bts mg) : Gd P w K mg base 1 "stock_row" ["demands", "amounts"] (spStk K) := by
  refine gd_of D scStk (fun vs H Q E h => ?_) (fun _ _ _ _ _ _ us hl => match us, hl with | [_, _], _ => rfl) fun f cdv A outer s H vs Q E hr h => ?_
  · obtain ⟨a, b, d, x, rfl, _⟩ := h
    rfl
  · obtain ⟨a, b, d, x, rfl, hd, hx, hl, h12, k⟩ := h
    refine ⟨_, pss_cons (ps_par (i := 2) (j := 3) rfl scStk.nd rfl rfl (by decide) rfl rfl (pa_cons (pe_lst pa_nil) (pa_cons pe_int pa_nil)) (by rfl))
      (pss_cons (ps_for PassesOwn.never rfl (pi_zipA rfl T.zip (pa_cons (pv 1) (pa_cons (pv 0) pa_nil))) (pg_tup rfl (pgs_cons (pg_name (i := 4) scStk.nd rfl (Or.inl rfl)) (pgs_cons (pg_name (i := 5) scStk.nd rfl (Or.inl rfl)) pgs_nil)))
        (pss_cons (ps_aug (i := 3) scStk.nd rfl (Or.inl rfl) (pe_op op_sub (pv 4) (pv 5)) ip_add)
        (pss_one (ps_expr (pe_bm PySem.F.plainAttrs_list PySem.F.slot_list_append PySem.F.type_list_append mt_append (pv 2) (pa_cons (pv 3) pa_nil))))))
      (pss_one (ps_ret (pv 2)))), ?_⟩
    refine ⟨Nat.zero_le _, fun p np => ⟨_, _, rfl, ?_⟩⟩
    have e1 : Ex H (upd H p (.lst [])) := Ex.new np
    refine q_forZip (ev_var rfl) (ev_var rfl) (ex_t e1 hx) (ex_t e1 hd) (by rw [List.length_map, List.length_map, hl]) (fun i σ' H' => ∃ v4 v5, σ' = [some (.ref a), some (.ref b), some (.ref p), some (.int (LP.sumF (fun u => LP.gI x u - LP.gI d u) 0 i)), v4, v5] ∧ Ex H H' ∧ H' p = some (.lst (iL (LP.stkL i d x))))
      (fun H2 e2 => ⟨none, none, rfl, e1.trans e2, e2 p _ upd_same⟩) (fun i σ' H' hP => ?_) (fun i xv dv σ' H' h1 h2 hP H2 e2 => ?_) fun σ' H' hP => ?_
    · obtain ⟨_, _, _, e, _⟩ := hP
      exact ⟨ex_t e hx, ex_t e hd⟩
    · obtain ⟨v4, v5, rfl, e3, hl3⟩ := hP
      obtain ⟨hi, rfl⟩ := of_iL h1
      obtain ⟨_, rfl⟩ := of_iL h2
      refine q_aug (f := fun i j => i + j) rfl (ev_op (ev_var rfl) (ev_var rfl) rv_I0) fun H3 e4 => ?_
      have hl4 := e4 p _ (e2 p _ hl3)
      refine s_app hl4 (ev_var rfl) (ev_var rfl) (by rw [List.length_map, LP.stkL_len]; omega) fun H4 e5 => ?_
      refine ⟨some (.int (gd x i)), some (.int (gd d i)), ?_, Ex.mut ((e3.trans e2).trans (e4.trans e5)) np, ?_⟩
      · rw [LP.sumF_succ, Nat.zero_add]
        rfl
      · rw [upd_same, stk_snoc, LP.sumF_succ, Nat.zero_add, ← iL_snoc]
    · obtain ⟨v4, v5, rfl, e3, hl3⟩ := hP
      rw [List.length_map, ← hl] at hl3
      exact s_ret (ev_var rfl) fun H2 e2 => k p H2 np (e3.trans e2) (e2 p _ hl3)
theorem el_stk {σ : L2.St} {H : Hp} {t : TA} {a b : Addr} {d x : List Int} (h : EvA t σ H [.ref a, .ref b]) (hd : SqT K H a (iL d)) (hx : SqT K H b (iL x)) (hl : d.length = x.length) (h12 : d.length ≤ 12) : EvL (tCall (spStk K) [] E0 t) σ H (iL (LP.stkL d.length d x)) :=
  el_call h fun H1 e Q q E => ⟨a, b, d, x, rfl, ex_t e hd, ex_t e hx, hl, h12, q⟩

/-! ### cost_of -/
abbrev sCst : Stmt := top 18
abbrev nCst : List Str := ["problem", "plan", "found", "at", "stock"]
theorem scCst : FnScope nCst ["problem", "plan"] (defScope sCst) := ⟨rfl, rfl, rfl, by decide +kernel, rfl, by decide +kernel, by decide +kernel⟩
def spCst (K : PySem.W.Frag) : Sp := fun vs H Q _ => ∃ a b L x, vs = [.ref a, .ref b] ∧ At K H a L ∧ L.Ok ∧ SqT K H b (iL x) ∧ x.length = L.n ∧ ∀ H', Ex H H' → Q (.int (LP.costL L.pb x)) H'
/-- problem[0] is itself the tuple -/
theorem at0 {H : Hp} {a : Addr} {L : Pl} (P : At K H a L) : ∃ a0, SqT K H a0 (iL L.d) ∧ ∀ (σ : L2.St) (H1 : Hp) (tp : TE), Ex H H1 → Ev tp σ H1 (.ref a) → Ev (tOp (rIxT K) tp (tC (.int 0))) σ H1 (.ref a0) := by
  obtain ⟨a0, a1, a2, a3, g, h0, _⟩ := P.ex
  exact ⟨a0, h0, fun σ H1 tp e h => ev_op h ev_c (rv_ixT (ex_t e g) (atI_nat (j := 0) rfl))⟩
theorem ok_cst (D : DefAt K mg "cost_of" sCst) (T : Bts mg) (GS : Gd P w K mg base 1 "stock_row" ["demands", "amounts"] (spStk K)) : Gd P w K mg base 2 "cost_of" ["problem", "plan"] (spCst K) := by
  refine gd_of D scCst (fun vs H Q E h => ?_) (fun _ _ _ _ _ _ us hl => match us, hl with | [_, _], _ => rfl) fun f cdv A outer s H vs Q E hr h => ?_
  · obtain ⟨a, b, L, x, rfl, _⟩ := h
    rfl
  · obtain ⟨a, b, L, x, rfl, hp, ok, hx, hl, k⟩ := h
    refine ⟨_, pss_cons (ps_set (i := 2) scCst.nd rfl (Or.inl rfl) pe_int)
      (pss_cons (ps_for PassesOwn.never rfl (pi_enum rfl T.enum (pa_cons (pe_go GS hr (by rfl) (pa_cons (pe_ix ix_tup (pv 0) pe_int (fun _ _ => rfl)) (pa_cons (pv 1) pa_nil))) pa_nil)) (pg_tup rfl (pgs_cons (pg_name (i := 3) scCst.nd rfl (Or.inl rfl)) (pgs_cons (pg_name (i := 4) scCst.nd rfl (Or.inl rfl)) pgs_nil)))
        (pss_cons (ps_aug (i := 2) scCst.nd rfl (Or.inl rfl) (pe_op op_add
            (pe_op op_mul (pe_ix ix_tup (pe_ix ix_tup (pv 0) pe_int (fun _ _ => rfl)) (pv 3) (fun _ _ => rfl)) (pv 4))
            (pe_op op_mul (pe_ix ix_tup (pe_ix ix_tup (pv 0) pe_int (fun _ _ => rfl)) (pv 3) (fun _ _ => rfl)) (pe_ix ix_tup (pv 1) (pv 3) (fun _ _ => rfl)))) ip_add)
        (pss_one (ps_aug (i := 2) scCst.nd rfl (Or.inl rfl) (pe_ifExp (pt_cmpR op_gt (pe_ix ix_tup (pv 1) (pv 3) (fun _ _ => rfl)) pe_int (nomark _)) (pe_ix ix_tup (pe_ix ix_tup (pv 0) pe_int (fun _ _ => rfl)) (pv 3) (fun _ _ => rfl)) pe_int) ip_add))))
      (pss_one (ps_ret (pv 2)))), ?_⟩
    refine q_asg (v := .int 0) ev_c fun H1 e1 => ?_
    have n12 := ok.n12
    have hp1 := hp.mono e1
    obtain ⟨a0, h0, g0⟩ := at0 hp1
    refine q_forEnL (el_stk (ea_cons (g0 _ _ _ (Ex.refl _) (ev_var rfl)) (ea_cons (ev_var rfl) ea_nil)) h0 (ex_t e1 hx) hl.symm (by show L.n ≤ 12; exact n12)) (fun q i σ' H' => ∃ v3 v4, σ' = [some (.ref a), some (.ref b), some (.int (LP.sumF (LP.stepL L.pb x) 0 i)), v3, v4] ∧ Ex H H' ∧ H' q = some (.lst (iL (LP.stkL L.n L.d x))))
      (fun q H2 nq e2 hq => ⟨none, none, rfl, e1.trans e2, hq⟩) (fun q i σ' H' _ hP => ?_) (fun q i v σ' H' h1 hP H2 e2 => ?_) fun q σ' H' hP => ?_
    · obtain ⟨_, _, _, _, hq⟩ := hP
      exact sq_of hq
    · obtain ⟨v3, v4, rfl, e3, hq⟩ := hP
      obtain ⟨hi, rfl⟩ := of_iL h1
      have hi' : i < L.n := by
        rw [LP.stkL_len] at hi
        exact hi
      have hg : gd (LP.stkL L.n L.d x) i = LP.sumF (fun u => LP.gI x u - LP.gI L.d u) 0 (i + 1) := LP.gI_map hi'
      have e02 := e3.trans e2
      have hp2 := hp.mono e02
      have hx2 : SqT K H2 b (iL x) := ex_t e02 hx
      refine q_aug (f := fun i j => i + j) rfl (ev_op (ev_op (ev_gd (i := i) (part3 (ev_var rfl) hp2) (ev_var rfl) (by rw [ok.lh]; exact hi')) (ev_var rfl) (rv_mulLe (gd_in ok.eh i)))
        (ev_op (ev_gd (i := i) (part2 (ev_var rfl) hp2) (ev_var rfl) (by rw [ok.lc]; exact hi')) (ev_gd (i := i) (es_ref (ev_var rfl) hx2) (ev_var rfl) (by rw [hl]; exact hi')) (rv_mulLe (gd_in ok.ec i))) rv_I0) fun H3 e4 => ?_
      have hp3 := hp2.mono e4
      refine s_aug (f := fun i j => i + j) (b := if gd x i > 0 then gd L.s i else 0) rfl (ev_if (et_test (ev_op (ev_gd (i := i) (es_ref (ev_var rfl) (ex_t e4 hx2)) (ev_var rfl) (by rw [hl]; exact hi')) ev_c rv_I0)) (fun hb => ?_) fun hb => ?_) fun H4 e5 => ?_
      · rw [if_pos (of_decide_eq_true hb)]
        exact ev_gd (i := i) (part1 (ev_var rfl) hp3) (ev_var rfl) (by rw [ok.ls]; exact hi')
      · rw [if_neg (of_decide_eq_false hb)]
        exact ev_c
      · refine ⟨some (.int (i : Nat)), some (.int (gd (LP.stkL L.n L.d x) i)), ?_, e02.trans (e4.trans e5), (e2.trans (e4.trans e5)) q _ hq⟩
        have hsum : LP.sumF (LP.stepL L.pb x) 0 i + (gd L.h i * gd (LP.stkL L.n L.d x) i + gd L.c i * gd x i) + (if gd x i > 0 then gd L.s i else 0) = LP.sumF (LP.stepL L.pb x) 0 (i + 1) := by
          rw [LP.sumF_succ, Nat.zero_add, hg, Int.add_assoc]
          rfl
        rw [← hsum]
        rfl
    · obtain ⟨v3, v4, rfl, e3, hq⟩ := hP
      rw [List.length_map, LP.stkL_len]
      exact s_ret (ev_var rfl) fun H2 e2 => k H2 (e3.trans e2)
theorem ev_cst {σ : L2.St} {H : Hp} {t : TA} {a b : Addr} {L : Pl} {x : List Int} (h : EvA t σ H [.ref a, .ref b]) (hp : At K H a L) (ok : L.Ok) (hx : SqT K H b (iL x)) (hl : x.length = L.n) : Ev (tCall (spCst K) [] E0 t) σ H (.int (LP.costL L.pb x)) :=
  ev_call h fun H1 e Q q E => ⟨a, b, L, x, rfl, hp.mono e, ok, ex_t e hx, hl, q⟩
end
end LW

set_option maxHeartbeats 4000000
namespace LW
open PySem PySem.Spec PyProof.Rows L2 Evl LR RZ
section
variable {K : PySem.W.Frag} {σ : L2.St} {H H' : Hp} {ta tb tc te : TE}
theorem ty_tup {a : Addr} {xs : List V} (h : SqT K H a xs) : TyX K H (.ref a) (.type "tuple") := by
  rcases h with (h | ⟨o, h⟩) | ⟨o, its, n, h1, h2, _⟩
  · exact .base (.tup h)
  · exact .fTuple h
  · exact .kTuple h1 h2
theorem ev_isi {x : V} {t : Value} {n : String} {b : Bool} (h : Ev ta σ H x) (ht : ∀ H1, Ex H H1 → TyX K H1 x t) (hk : PySem.W.kitOne K t (.type n) = some b) : Ev (tCB (rIsi K) (tCons ta (tCons (tC (.ty n)) tNil))) σ H (.bl b) :=
  ev_cb (ea_cons h (ea_cons ev_c ea_nil)) fun H1 e Q q => ⟨x, .ty n, t, .type n, b, rfl, ClsV.ty n, ht H1 e, hk, q H1 (Ex.refl H1)⟩
theorem ev_isT {a : Addr} {xs : List V} (h : Ev ta σ H (.ref a)) (hx : SqT K H a xs) : Ev (tCB (rIsi K) (tCons ta (tCons (tC (.ty "tuple")) tNil))) σ H (.bl true) :=
  ev_isi h (fun H1 e => ty_tup (ex_t e hx)) (kit_ty (by decide +kernel))
theorem ev_all {bs : List Bool} (h : EvL te σ H (bs.map V.bl)) : Ev (tCB (rAll K) (tCons te tNil)) σ H (.bl (bs.all id)) := fun H1 e Q q =>
  h H1 e _ fun p H2 _ e2 hp => ⟨p, bs, rfl, sq_of hp, q H2 e2⟩
theorem ev_any {bs : List Bool} (h : EvL te σ H (bs.map V.bl)) : Ev (tCB (rAny K) (tCons te tNil)) σ H (.bl (bs.any id)) := fun H1 e Q q =>
  h H1 e _ fun p H2 _ e2 hp => ⟨p, bs, rfl, sq_of hp, q H2 e2⟩
theorem ev_chain {f g : Int → Int → Bool} {i j k : Int} (ha : Ev ta σ H (.int i)) (hb : Ev tb σ H (.int j)) (hc : Ev tc σ H (.int k)) :
    Ev (tChain (rI0 fun i j => .bl (f i j)) (rI0 fun i j => .bl (g i j)) ta tb tc) σ H (.bl (f i j && g j k)) := fun H1 e Q q =>
  ha H1 e _ fun H2 e2 => hb H2 (e.trans e2) _ fun H3 e3 => ⟨i, j, rfl, rfl, f i j, rfl, by
    cases h : f i j with
    | false =>
      rw [if_neg (by decide)]
      rw [h] at q
      exact q H3 (e2.trans e3)
    | true =>
      rw [if_pos rfl]
      rw [h] at q
      exact hc H3 ((e.trans e2).trans e3) _ fun H4 e4 => ⟨j, k, rfl, rfl, q H4 ((e2.trans e3).trans e4)⟩⟩
theorem ev_sumSq {a : Addr} {ns : List Int} (h : Ev te σ H (.ref a)) (hx : SqT K H a (iL ns)) : Ev (tCB (rSumT K) (tCons te tNil)) σ H (.int ns.sum) := ev_sumT (es_ref h hx)
theorem At.parts {a : Addr} {L : Pl} (P : At K H a L) (ok : L.Ok) : ∃ xs, SqT K H a xs ∧ xs.length = 4 ∧ ∀ x ∈ xs, ∃ b l, x = .ref b ∧ SqT K H b (iL l) ∧ l.length = L.n ∧ ∀ y ∈ l, InE y := by
  obtain ⟨a0, a1, a2, a3, g, h0, h1, h2, h3⟩ := P.ex
  refine ⟨_, g, rfl, fun x hx => ?_⟩
  simp only [List.mem_cons, List.not_mem_nil, or_false] at hx
  rcases hx with rfl | rfl | rfl | rfl
  · exact ⟨a0, _, rfl, h0, rfl, ok.ed⟩
  · exact ⟨a1, _, rfl, h1, ok.ls, ok.es⟩
  · exact ⟨a2, _, rfl, h2, ok.lc, ok.ec⟩
  · exact ⟨a3, _, rfl, h3, ok.lh, ok.eh⟩
end
section
variable {P : Program} {w : World} {K : PySem.W.Frag} {mg : Str → Option Value} {base : Heap}
/-! ### is_int, is_in -/
abbrev sIsi : Stmt := top 7
theorem scIsi : FnScope ["value"] ["value"] (defScope sIsi) := ⟨rfl, rfl, rfl, by decide +kernel, rfl, by decide +kernel, by decide +kernel⟩
def spIsi : Sp := fun vs H Q _ => ∃ i, vs = [.int i] ∧ ∀ H', Ex H H' → Q (.bl true) H'
theorem ok_isi (D : DefAt K mg "is_int" sIsi) (T : Bts mg) : Gd P w K mg base 1 "is_int" ["value"] spIsi := by
  refine gd_of D scIsi (fun vs H Q E h => ?_) (fun _ _ _ _ _ _ us hl => match us, hl with | [_], _ => rfl) fun f cdv A outer s H vs Q E hr h => ?_
  · obtain ⟨i, rfl, _⟩ := h
    rfl
  · obtain ⟨i, rfl, k⟩ := h
    refine ⟨_, pss_one (ps_ret (pe_and (pe_callB call_isi (by rfl) T.isi PyProof.Rows.boot_isinstance (pa_cons (pv 0) (pa_cons (pe_bltn (v := .ty "int") (by rfl) T.int PyProof.Rows.boot_int rfl) pa_nil)))
      (pe_one (pe_not (pe_callB call_isi (by rfl) T.isi PyProof.Rows.boot_isinstance (pa_cons (pv 0) (pa_cons (pe_bltn (v := .ty "bool") (by rfl) T.bool PyProof.Rows.boot_bool rfl) pa_nil))))))), ?_⟩
    exact s_ret (ev_andV (ev_isi (ev_var rfl) (fun _ _ => .base (.int i)) (kit_ty (b := "int") (r := true) (by decide +kernel))) fun _ => ev_notV (ev_isi (ev_var rfl) (fun _ _ => .base (.int i)) (kit_ty (b := "bool") (r := false) (by decide +kernel)))) fun H1 e => k H1 e
theorem ev_isi_ {σ : L2.St} {H : Hp} {t : TA} {i : Int} (h : EvA t σ H [.int i]) : Ev (tCall spIsi [] E0 t) σ H (.bl true) :=
  ev_call h fun H1 e Q q E => ⟨i, rfl, q⟩
abbrev sIn : Stmt := top 8
theorem scIn : FnScope ["value", "least", "most"] ["value", "least", "most"] (defScope sIn) := ⟨rfl, rfl, rfl, by decide +kernel, rfl, by decide +kernel, by decide +kernel⟩
def spIn : Sp := fun vs H Q _ => ∃ i a b, vs = [.int i, .int a, .int b] ∧ ∀ H', Ex H H' → Q (.bl (decide (a ≤ i) && decide (i ≤ b))) H'
theorem ok_in (D : DefAt K mg "is_in" sIn) (T : Bts mg) (GI : Gd P w K mg base 1 "is_int" ["value"] spIsi) : Gd P w K mg base 2 "is_in" ["value", "least", "most"] spIn := by
  refine gd_of D scIn (fun vs H Q E h => ?_) (fun _ _ _ _ _ _ us hl => match us, hl with | [_, _, _], _ => rfl) fun f cdv A outer s H vs Q E hr h => ?_
  · obtain ⟨i, a, b, rfl, _⟩ := h
    rfl
  · obtain ⟨i, a, b, rfl, k⟩ := h
    refine ⟨_, pss_one (ps_ret (pe_and (pe_go GI hr (by rfl) (pa_cons (pv 0) pa_nil)) (pe_one (pe_chain op_le op_le (pv 1) (pv 0) (pv 2))))), ?_⟩
    exact s_ret (ev_andV (ev_isi_ (ea_cons (ev_var rfl) ea_nil)) fun _ => ev_chain (f := fun i j => decide (i ≤ j)) (g := fun i j => decide (i ≤ j)) (ev_var rfl) (ev_var rfl) (ev_var rfl)) fun H1 e => k H1 e
theorem ev_in {σ : L2.St} {H : Hp} {t : TA} {i a b : Int} (h : EvA t σ H [.int i, .int a, .int b]) : Ev (tCall spIn [] E0 t) σ H (.bl (decide (a ≤ i) && decide (i ≤ b))) :=
  ev_call h fun H1 e Q q E => ⟨i, a, b, rfl, q⟩
end
end LW

set_option maxHeartbeats 4000000
namespace LW
open PySem PySem.Spec PyProof.Rows L2 Evl LR RZ
theorem pe_gi {X : Cx} {x : Str} {i : Int} {pos : Pos} (hg : Gl X x) (h : ∃ t, X.mg x = some (.int i t)) (hd : (x == ("__debug__" : Str)) = false := by decide) : PE X (.Name x pos) (tC (.int i)) := by
  obtain ⟨t, hm⟩ := h
  exact pe_glob hg hm ⟨t, rfl⟩ hd
section
variable {P : Program} {w : World} {K : PySem.W.Frag} {mg : Str → Option Value} {base : Heap}
/-! ### need_problem -/
abbrev sNpr : Stmt := top 12
abbrev nNpr : List Str := ["value", "number", "part", "index", "entry"]
theorem scNpr : FnScope nNpr ["value"] (defScope sNpr) := ⟨rfl, rfl, rfl, by decide +kernel, rfl, by decide +kernel, by decide +kernel⟩
def spNpr (K : PySem.W.Frag) : Sp := fun vs H Q _ => ∃ a L, vs = [.ref a] ∧ At K H a L ∧ L.Ok ∧ ∀ H', Ex H H' → Q .non H'
theorem rep_bl (n : Nat) (b : Bool) : (List.range n).map (fun _ => V.bl b) = (List.replicate n b).map V.bl := by
  apply List.ext_getElem?
  intro i
  rw [List.getElem?_map, List.getElem?_map, List.getElem?_replicate]
  by_cases h : i < n
  · rw [List.getElem?_range h, if_pos h]
    rfl
  · rw [List.getElem?_eq_none (by rw [List.length_range]; omega), if_neg h]
    rfl
theorem all_rep (n : Nat) : (List.replicate n true).all id = true := by
  rw [List.all_eq_true]
  intro x hx
  rw [List.eq_of_mem_replicate hx]
  rfl
theorem any_rep (n : Nat) : (List.replicate n false).any id = false := by
  rw [List.any_eq_false]
  intro x hx
  rw [List.eq_of_mem_replicate hx]
  decide
theorem ok_npr (D : DefAt K mg "need_problem" sNpr) (T : Bts mg) (GI : Gd P w K mg base 2 "is_in" ["value", "least", "most"] spIn) : Gd P w K mg base 3 "need_problem" ["value"] (spNpr K) := by
  refine gd_of D scNpr (fun vs H Q E h => ?_) (fun _ _ _ _ _ _ us hl => match us, hl with | [_], _ => rfl) fun f cdv A outer s H vs Q E hr h => ?_
  · obtain ⟨a, L, rfl, _⟩ := h
    rfl
  · obtain ⟨a, L, rfl, hp, ok, k⟩ := h
    refine ⟨_, pss_cons (ps_if (pw_or (pt_not (pt_val (pe_callB (isiK K) (by rfl) T.isi PyProof.Rows.boot_isinstance (pa_cons (pv 0) (pa_cons (pe_bltn (v := .ty "tuple") (by rfl) T.tuple PyProof.Rows.boot_tuple rfl) pa_nil)))))
        (pw_or (pt_cmpR op_ne (pe_callB call_len_seq (by rfl) T.len PySem.boot_len (pa_cons (pv 0) pa_nil)) pe_int (nomark _))
        (pw_or1 (pt_not (pt_val (pe_callB (cr_all rfl) (by rfl) T.all (by decide +kernel) (pa_cons
          (pe_lc (own := [("part", 2)]) (g := gName 2) (tt := tYes) rfl scNpr.nd (pi_tup (pv 0)) (blkOk_by (N := nNpr) (sc := defScope sNpr) (by decide +kernel))
            (fun _ _ _ _ _ => pg_name (i := 2) scNpr.nd rfl (Or.inl rfl)) (fun _ _ _ _ _ => pts_nil)
            (fun _ _ _ _ _ => pe_callB (isiK K) (by rfl) T.isi PyProof.Rows.boot_isinstance (pa_cons (pv 2) (pa_cons (pe_bltn (v := .ty "tuple") (by rfl) T.tuple PyProof.Rows.boot_tuple rfl) pa_nil)))) pa_nil))))))).pt
        (pss_one ps_never) pss_nil)
      (pss_cons (ps_if (pw_or (pt_not (pt_chain op_le op_le pe_int (pe_callB call_len_seq (by rfl) T.len PySem.boot_len (pa_cons (pe_ix ix_tup (pv 0) pe_int (fun _ _ => rfl)) pa_nil)) (pe_gi (by rfl) T.mp)))
        (pw_or1 (pt_val (pe_callB (cr_any rfl) (by rfl) T.any (by decide +kernel) (pa_cons
          (pe_lc (own := [("part", 2)]) (g := gName 2) (tt := tYes) rfl scNpr.nd (pi_tup (pv 0)) (blkOk_by (N := nNpr) (sc := defScope sNpr) (by decide +kernel))
            (fun _ _ _ _ _ => pg_name (i := 2) scNpr.nd rfl (Or.inl rfl)) (fun _ _ _ _ _ => pts_nil)
            (fun _ _ _ _ _ => pe_cmpR op_ne (pe_callB (lenS K) (by rfl) T.len PySem.boot_len (pa_cons (pv 2) pa_nil)) (pe_callB (lenS K) (by rfl) T.len PySem.boot_len (pa_cons (pe_ix (ixT K) (pv 0) pe_int (fun _ _ => rfl)) pa_nil)) (nomark _))) pa_nil))))).pt
        (pss_one ps_never) pss_nil)
      (pss_one (ps_for PassesOwn.never rfl (pi_enumT rfl T.enum (pa_cons (pv 0) pa_nil)) (pg_tup rfl (pgs_cons (pg_name (i := 1) scNpr.nd rfl (Or.inl rfl)) (pgs_cons (pg_name (i := 2) scNpr.nd rfl (Or.inl rfl)) pgs_nil)))
        (pss_one (ps_for PassesOwn.never rfl (pi_enumT rfl T.enum (pa_cons (pv 2) pa_nil)) (pg_tup rfl (pgs_cons (pg_name (i := 3) scNpr.nd rfl (Or.inl rfl)) (pgs_cons (pg_name (i := 4) scNpr.nd rfl (Or.inl rfl)) pgs_nil)))
          (pss_one (ps_if (pt_not (pt_val (pe_go GI hr (by rfl) (pa_cons (pv 4) (pa_cons pe_int (pa_cons (pe_gi (by rfl) T.me) pa_nil))))))
            (pss_one ps_never) pss_nil))))))), ?_⟩
    obtain ⟨xs, hx, hx4, hxs⟩ := hp.parts ok
    have n12 := ok.n12
    have n1 := ok.n1
    refine q_when (b := false) (et_is (et_or (et_not (et_B (ev_isT (ev_var rfl) hx))) fun _ => et_or (et_test (ev_op (ev_lenS (es_ref (ev_var rfl) hx)) ev_c (rv_ne rfl))) fun _ => et_not (et_B (ev_all (bs := List.replicate xs.length true) ?_))) ?_) (fun hb => nomatch hb) fun _ H1 e1 => ?_
    · rw [← rep_bl, ← given_all]
      refine el_lcT (fun _ => true) (fun _ => .bl true) (es_ref (ev_var rfl) hx) (by omega) (fun x => rfl) (fun _ _ _ _ _ => et_yes) fun i x H2 e2 hi _ => ?_
      obtain ⟨b, l, rfl, hb, _⟩ := hxs x (List.mem_of_getElem? hi)
      exact ev_isT (ev_var rfl) (ex_t e2 hb)
    · rw [all_rep, hx4]
      rfl
    have hp1 := hp.mono e1
    refine q_when (b := false) (et_is (et_or (et_not (et_test (ev_chain (f := fun i j => decide (i ≤ j)) (g := fun i j => decide (i ≤ j)) ev_c (ev_lenS (part0 (ev_var rfl) hp1)) ev_c))) fun _ => et_B (ev_any (bs := List.replicate xs.length false) ?_)) ?_) (fun hb => nomatch hb) fun _ H2 e2 => ?_
    · rw [← rep_bl, ← given_all]
      refine el_lcT (fun _ => true) (fun _ => .bl false) (es_ref (ev_var rfl) (ex_t e1 hx)) (by omega) (fun x => rfl) (fun _ _ _ _ _ => et_yes) fun i x H3 e3 hi _ => ?_
      obtain ⟨b, l, rfl, hb, hl, _⟩ := hxs x (List.mem_of_getElem? hi)
      refine ev_is (ev_op (ev_lenS (es_ref (ev_var rfl) (ex_t (e1.trans e3) hb))) (ev_lenS (part0 (ev_var rfl) (hp1.mono e3))) (rv_ne rfl)) ?_
      rw [List.length_map, List.length_map, hl]
      show V.bl (!decide (V.int _ = V.int _)) = _
      rw [decide_eq_true (show V.int (L.n : Nat) = V.int (L.d.length : Nat) from rfl)]
      rfl
    · rw [any_rep, List.length_map]
      rw [decide_eq_true (show (1 : Int) ≤ (L.d.length : Nat) by show (1 : Int) ≤ (L.n : Nat); omega), decide_eq_true (show ((L.d.length : Nat) : Int) ≤ 12 by show ((L.n : Nat) : Int) ≤ 12; omega)]
      rfl
    refine s_forEn (ev_var rfl) (ex_t (e1.trans e2) hx) (fun i σ' H' => ∃ v1 v2 v3 v4, σ' = [some (.ref a), v1, v2, v3, v4] ∧ Ex H H') (fun H3 e3 => ⟨none, none, none, none, rfl, (e1.trans e2).trans e3⟩) (fun i σ' H' _ hP => ?_) (fun i x σ' H' hi hP H3 e3 => ?_) fun σ' H' hP => ?_
    · obtain ⟨_, _, _, _, _, e⟩ := hP
      exact ex_t e hx
    · obtain ⟨v1, v2, v3, v4, rfl, e4⟩ := hP
      obtain ⟨b, l, rfl, hb, hl, hin⟩ := hxs x (List.mem_of_getElem? hi)
      have e5 := e4.trans e3
      refine s_forEn (ev_var rfl) (ex_t e5 hb) (fun j σ' H' => ∃ v3 v4, σ' = [some (.ref a), some (.int (i : Nat)), some (.ref b), v3, v4] ∧ Ex H H') (fun H4 e6 => ⟨v3, v4, rfl, e5.trans e6⟩) (fun j σ' H' _ hP => ?_) (fun j y σ' H' hj hP H4 e6 => ?_) fun σ' H' hP => ?_
      · obtain ⟨_, _, _, e⟩ := hP
        exact ex_t e hb
      · obtain ⟨v3, v4, rfl, e7⟩ := hP
        obtain ⟨hj', rfl⟩ := of_iL hj
        have hz := gd_in hin j
        refine s_when (b := false) (et_is (et_not (et_B (ev_in (ea_cons (ev_var rfl) (ea_cons ev_c (ea_cons ev_c ea_nil)))))) ?_) (fun hb => nomatch hb) fun _ H5 e8 => ⟨some (.int (j : Nat)), some (.int (gd l j)), rfl, (e7.trans e6).trans e8⟩
        rw [decide_eq_true hz.1, decide_eq_true hz.2]
        rfl
      · obtain ⟨v3, v4, rfl, e7⟩ := hP
        exact ⟨_, _, _, _, rfl, e7⟩
    · obtain ⟨_, _, _, _, _, e⟩ := hP
      exact k H' e
theorem ev_npr {σ : L2.St} {H : Hp} {t : TA} {a : Addr} {L : Pl} (h : EvA t σ H [.ref a]) (hp : At K H a L) (ok : L.Ok) : Ev (tCall (spNpr K) [] E0 t) σ H .non :=
  ev_call h fun H1 e Q q E => ⟨a, L, rfl, hp.mono e, ok, q⟩
/-! ### need_period -/
abbrev sNpe : Stmt := top 30
theorem scNpe : FnScope ["problem", "period"] ["problem", "period"] (defScope sNpe) := ⟨rfl, rfl, rfl, by decide +kernel, rfl, by decide +kernel, by decide +kernel⟩
def spNpe (K : PySem.W.Frag) : Sp := fun vs H Q _ => ∃ a L, ∃ p : Nat, vs = [.ref a, .int p] ∧ At K H a L ∧ p < L.n ∧ ∀ H', Ex H H' → Q .non H'
theorem ok_npe (D : DefAt K mg "need_period" sNpe) (T : Bts mg) (GP : Gd P w K mg base 1 "periods_of" ["problem"] (spPer K)) (GI : Gd P w K mg base 2 "is_in" ["value", "least", "most"] spIn) : Gd P w K mg base 3 "need_period" ["problem", "period"] (spNpe K) := by
  refine gd_of D scNpe (fun vs H Q E h => ?_) (fun _ _ _ _ _ _ us hl => match us, hl with | [_, _], _ => rfl) fun f cdv A outer s H vs Q E hr h => ?_
  · obtain ⟨a, L, p, rfl, _⟩ := h
    rfl
  · obtain ⟨a, L, p, rfl, hp, hpn, k⟩ := h
    have hr1 : Room 1 _ := hr.mono (by decide)
    refine ⟨_, pss_one (ps_if (pt_not (pt_val (pe_go GI hr (by rfl) (pa_cons (pv 1) (pa_cons pe_int (pa_cons (pe_op op_sub (pe_go GP hr1 (by rfl) (pa_cons (pv 0) pa_nil)) pe_int) pa_nil))))))
            (pss_one ps_never) pss_nil), ?_⟩
    refine s_when (b := false) (et_is (et_not (et_B (ev_in (ea_cons (ev_var rfl) (ea_cons ev_c (ea_cons (ev_op (ev_per (ea_cons (ev_var rfl) ea_nil) hp) ev_c rv_I0) ea_nil)))))) ?_) (fun hb => nomatch hb) fun _ H5 e8 => k H5 e8
    rw [decide_eq_true (show (0 : Int) ≤ (p : Nat) by omega), decide_eq_true (show ((p : Nat) : Int) ≤ (L.n : Nat) - 1 by omega)]
    rfl
theorem ev_npe {σ : L2.St} {H : Hp} {t : TA} {a : Addr} {L : Pl} {p : Nat} (h : EvA t σ H [.ref a, .int p]) (hp : At K H a L) (hpn : p < L.n) : Ev (tCall (spNpe K) [] E0 t) σ H .non :=
  ev_call h fun H1 e Q q E => ⟨a, L, p, rfl, hp.mono e, hpn, q⟩
end
end LW

set_option maxHeartbeats 4000000
namespace LW
open PySem PySem.Spec PyProof.Rows L2 Evl LR RZ
section
variable {P : Program} {w : World} {K : PySem.W.Frag} {mg : Str → Option Value} {base : Heap}
/-! ### need_plan, need_both -/
abbrev sNpl : Stmt := top 16
abbrev nNpl : List Str := ["problem", "value", "many", "index", "stock", "part"]
theorem scNpl : FnScope nNpl ["problem", "value"] (defScope sNpl) := ⟨rfl, rfl, rfl, by decide +kernel, rfl, by decide +kernel, by decide +kernel⟩
/-- a list that need_plan lets pass -/
structure PlanOk (L : Pl) (x : List Int) : Prop where
  len : x.length = L.n
  pos : ∀ y ∈ x, 0 ≤ y
  stk : ∀ i, i < L.n → 0 ≤ LP.sumF (fun u => LP.gI x u - LP.gI L.d u) 0 (i + 1)
  sum : LP.sumF (LP.gI x) 0 L.n = LP.sumF (LP.gI L.d) 0 L.n
def spNpl (K : PySem.W.Frag) : Sp := fun vs H Q _ => ∃ a b L x, vs = [.ref a, .ref b] ∧ At K H a L ∧ L.Ok ∧ SqT K H b (iL x) ∧ PlanOk L x ∧ ∀ H', Ex H H' → Q .non H'
theorem ok_npl (D : DefAt K mg "need_plan" sNpl) (T : Bts mg) (GP : Gd P w K mg base 1 "periods_of" ["problem"] (spPer K)) (GI : Gd P w K mg base 1 "is_int" ["value"] spIsi) (GS : Gd P w K mg base 1 "stock_row" ["demands", "amounts"] (spStk K)) :
    Gd P w K mg base 2 "need_plan" ["problem", "value"] (spNpl K) := by
  refine gd_of D scNpl (fun vs H Q E h => ?_) (fun _ _ _ _ _ _ us hl => match us, hl with | [_, _], _ => rfl) fun f cdv A outer s H vs Q E hr h => ?_
  · obtain ⟨a, b, L, x, rfl, _⟩ := h
    rfl
  · obtain ⟨a, b, L, x, rfl, hp, ok, hx, po, k⟩ := h
    refine ⟨_, pss_cons (ps_set (i := 2) scNpl.nd rfl (Or.inl rfl) (pe_go GP hr (by rfl) (pa_cons (pv 0) pa_nil)))
      (pss_cons (ps_if (pw_or (pt_not (pt_val (pe_callB (isiK K) (by rfl) T.isi PyProof.Rows.boot_isinstance (pa_cons (pv 1) (pa_cons (pe_bltn (v := .ty "tuple") (by rfl) T.tuple PyProof.Rows.boot_tuple rfl) pa_nil)))))
        (pw_or (pt_cmpR op_ne (pe_callB call_len_seq (by rfl) T.len PySem.boot_len (pa_cons (pv 1) pa_nil)) (pv 2) (nomark _))
        (pw_or1 (pt_not (pt_val (pe_callB (cr_all rfl) (by rfl) T.all (by decide +kernel) (pa_cons
          (pe_lc (own := [("part", 5)]) (g := gName 5) (tt := tYes) rfl scNpl.nd (pi_tup (pv 1)) (blkOk_by (N := nNpl) (sc := defScope sNpl) (by decide +kernel))
            (fun _ _ _ _ _ => pg_name (i := 5) scNpl.nd rfl (Or.inl rfl)) (fun _ _ _ _ _ => pts_nil)
            (fun _ _ _ _ _ => pe_and (pe_go GI hr (by rfl) (pa_cons (pv 5) pa_nil)) (pe_one (pe_cmpR op_ge (pv 5) pe_int (nomark _))))) pa_nil))))))).pt
        (pss_one ps_never) pss_nil)
      (pss_cons (ps_for PassesOwn.never rfl (pi_enum rfl T.enum (pa_cons (pe_go GS hr (by rfl) (pa_cons (pe_ix ix_tup (pv 0) pe_int (fun _ _ => rfl)) (pa_cons (pv 1) pa_nil))) pa_nil)) (pg_tup rfl (pgs_cons (pg_name (i := 3) scNpl.nd rfl (Or.inl rfl)) (pgs_cons (pg_name (i := 4) scNpl.nd rfl (Or.inl rfl)) pgs_nil)))
        (pss_one (ps_if (pt_cmpR op_lt (pv 4) pe_int (nomark _)) (pss_one ps_never) pss_nil)))
      (pss_one (ps_if (pt_cmpR op_ne (pe_callB (cr_sumT rfl) (by rfl) T.sum (by decide +kernel) (pa_cons (pv 1) pa_nil)) (pe_callB (cr_sumT rfl) (by rfl) T.sum (by decide +kernel) (pa_cons (pe_ix ix_tup (pv 0) pe_int (fun _ _ => rfl)) pa_nil)) (nomark _)) (pss_one ps_never) pss_nil)))), ?_⟩
    have n12 := ok.n12
    refine q_asg (ev_per (ea_cons (ev_var rfl) ea_nil) hp) fun H1 e1 => ?_
    have hx1 : SqT K H1 b (iL x) := ex_t e1 hx
    have hxl : (iL x).length = L.n := by
      rw [List.length_map]
      exact po.len
    refine q_when (b := false) (et_is (et_or (et_not (et_B (ev_isT (ev_var rfl) hx1))) fun _ => et_or (et_test (ev_op (ev_lenS (es_ref (ev_var rfl) hx1)) (ev_var rfl) (rv_ne rfl))) fun _ => et_not (et_B (ev_all (bs := List.replicate (iL x).length true) ?_))) ?_) (fun hb => nomatch hb) fun _ H2 e2 => ?_
    · rw [← rep_bl, ← given_all]
      refine el_lcT (fun _ => true) (fun _ => .bl true) (es_ref (ev_var rfl) hx1) (by omega) (fun x => rfl) (fun _ _ _ _ _ => et_yes) fun i y H2 e2 hi _ => ?_
      obtain ⟨hj, rfl⟩ := of_iL hi
      have h0 : 0 ≤ gd x i := by
        unfold gd
        rw [List.getD_eq_getElem?_getD, List.getElem?_eq_getElem hj]
        exact po.pos _ (List.getElem_mem hj)
      refine ev_is (ev_andV (ev_isi_ (ea_cons (ev_var rfl) ea_nil)) fun _ => ev_op (ev_var rfl) ev_c rv_I0) ?_
      rw [decide_eq_true h0]
      rfl
    · rw [all_rep, hxl, decide_eq_true (show V.int (L.n : Nat) = V.int (L.n : Nat) from rfl)]
      rfl
    have e12 := e1.trans e2
    have hp2 := hp.mono e12
    obtain ⟨a0, h0, g0⟩ := at0 hp2
    refine q_forEnL (el_stk (ea_cons (g0 _ _ _ (Ex.refl _) (ev_var rfl)) (ea_cons (ev_var rfl) ea_nil)) h0 (ex_t e12 hx) po.len.symm (by show L.n ≤ 12; exact n12)) (fun q i σ' H' => ∃ v3 v4, σ' = [some (.ref a), some (.ref b), some (.int (L.n : Nat)), v3, v4, none] ∧ Ex H H' ∧ H' q = some (.lst (iL (LP.stkL L.n L.d x))))
      (fun q H2 nq e2 hq => ⟨none, none, rfl, e12.trans e2, hq⟩) (fun q i σ' H' _ hP => ?_) (fun q i v σ' H' h1 hP H2 e2 => ?_) fun q σ' H' hP => ?_
    · obtain ⟨_, _, _, _, hq⟩ := hP
      exact sq_of hq
    · obtain ⟨v3, v4, rfl, e3, hq⟩ := hP
      obtain ⟨hi, rfl⟩ := of_iL h1
      have hi' : i < L.n := by
        rw [LP.stkL_len] at hi
        exact hi
      have hg : gd (LP.stkL L.n L.d x) i = LP.sumF (fun u => LP.gI x u - LP.gI L.d u) 0 (i + 1) := LP.gI_map hi'
      have h0 := po.stk i hi'
      refine s_when (b := false) (et_is (et_test (ev_op (ev_var rfl) ev_c rv_I0)) (decide_eq_false (by show ¬ gd (LP.stkL L.n L.d x) i < 0; rw [hg]; omega))) (fun hb => nomatch hb) fun _ H3 e4 => ?_
      exact ⟨some (.int (i : Nat)), some (.int (gd (LP.stkL L.n L.d x) i)), rfl, (e3.trans e2).trans e4, (e2.trans e4) q _ hq⟩
    · obtain ⟨v3, v4, rfl, e3, hq⟩ := hP
      refine s_when (b := false) (et_is (et_test (ev_op (ev_sumSq (ev_var rfl) (ex_t e3 hx)) (ev_sumT (part0 (ev_var rfl) (hp.mono e3))) (rv_ne rfl))) ?_) (fun hb => nomatch hb) fun _ H3 e4 => k H3 (e3.trans e4)
      rw [LP.list_sum, LP.list_sum, po.len, show L.d.length = L.n from rfl, po.sum, decide_eq_true rfl]
      rfl
theorem ev_npl {σ : L2.St} {H : Hp} {t : TA} {a b : Addr} {L : Pl} {x : List Int} (h : EvA t σ H [.ref a, .ref b]) (hp : At K H a L) (ok : L.Ok) (hx : SqT K H b (iL x)) (po : PlanOk L x) : Ev (tCall (spNpl K) [] E0 t) σ H .non :=
  ev_call h fun H1 e Q q E => ⟨a, b, L, x, rfl, hp.mono e, ok, ex_t e hx, po, q⟩
abbrev sNbo : Stmt := top 17
theorem scNbo : FnScope ["problem", "plan"] ["problem", "plan"] (defScope sNbo) := ⟨rfl, rfl, rfl, by decide +kernel, rfl, by decide +kernel, by decide +kernel⟩
theorem ok_nbo (D : DefAt K mg "need_both" sNbo) (T : Bts mg) (GN : Gd P w K mg base 3 "need_problem" ["value"] (spNpr K)) (GL : Gd P w K mg base 2 "need_plan" ["problem", "value"] (spNpl K)) : Gd P w K mg base 4 "need_both" ["problem", "plan"] (spNpl K) := by
  refine gd_of D scNbo (fun vs H Q E h => ?_) (fun _ _ _ _ _ _ us hl => match us, hl with | [_, _], _ => rfl) fun f cdv A outer s H vs Q E hr h => ?_
  · obtain ⟨a, b, L, x, rfl, _⟩ := h
    rfl
  · obtain ⟨a, b, L, x, rfl, hp, ok, hx, po, k⟩ := h
    have hr2 : Room 2 _ := hr.mono (by decide)
    refine ⟨_, pss_cons (ps_expr (pe_go GN hr (by rfl) (pa_cons (pv 0) pa_nil))) (pss_one (ps_expr (pe_go GL hr2 (by rfl) (pa_cons (pv 0) (pa_cons (pv 1) pa_nil))))), ?_⟩
    exact q_drop (ev_npr (ea_cons (ev_var rfl) ea_nil) hp ok) fun H1 e1 => s_drop (ev_npl (ea_cons (ev_var rfl) (ea_cons (ev_var rfl) ea_nil)) (hp.mono e1) ok (ex_t e1 hx) po) fun H2 e2 => k H2 (e1.trans e2)
end
end LW

set_option maxHeartbeats 4000000
namespace LW
open PySem PySem.Spec PyProof.Rows L2 Evl LR RZ
/-! ### comparing with an empty list -/
section
variable {K : PySem.W.Frag} {σ : L2.St} {H H' : Hp} {ta tb tc te : TE}
def Dd (K : PySem.W.Frag) (H : Hp) (v : V) (n : Nat) : Prop := ∃ d, Dp K H v d ∧ d.canLay0 = true ∧ d.depth ≤ n
theorem dd_int (i : Int) (n : Nat) : Dd K H (.int i) n := ⟨.int i, .int i, rfl, Nat.zero_le _⟩
theorem dd_all {n : Nat} : ∀ {xs : List V}, (∀ x ∈ xs, Dd K H x n) → ∃ ds, DpAll K H xs ds ∧ PyData.canLayAll0 ds = true ∧ PyData.depthAll ds ≤ n ∧ ds.isEmpty = xs.isEmpty
  | [], _ => ⟨[], .nil, rfl, Nat.zero_le _, rfl⟩
  | x :: xs, h => by
    obtain ⟨ds, h1, h2, h3, _⟩ := dd_all fun y hy => h y (List.mem_cons_of_mem _ hy)
    obtain ⟨d, g1, g2, g3⟩ := h x List.mem_cons_self
    refine ⟨d :: ds, .cons g1 h1, ?_, ?_, rfl⟩
    · show (d.canLay0 && PyData.canLayAll0 ds) = true
      rw [g2, h2]
      rfl
    · show max d.depth (PyData.depthAll ds) ≤ n
      exact Nat.max_le.mpr ⟨g3, h3⟩
theorem dd_tup {a : Addr} {xs : List V} {n : Nat} (hx : SqT K H a xs) (h : ∀ x ∈ xs, Dd K H x n) : Dd K H (.ref a) (n + 1) := by
  obtain ⟨ds, h1, h2, h3, _⟩ := dd_all h
  exact ⟨.tuple ds, .tup hx h1, h2, Nat.succ_le_succ h3⟩
theorem rv_neNil {p q : Addr} {xs : List V} {n : Nat} (hp : SqL K H p xs) (hq : SqL K H q []) (hn : n ≤ 60) (h : ∀ H1, Ex H H1 → ∀ x ∈ xs, Dd K H1 x n) : RV (rNeD K) (.ref p) (.ref q) H (.bl (!xs.isEmpty)) := fun H1 e Q k => by
  obtain ⟨ds, h1, h2, h3, h4⟩ := dd_all (h H1 e)
  refine ⟨.list ds, .list [], .lst (ex_l e hp) h1, .lst (ex_l e hq) .nil, ?_, rfl, ?_⟩
  · show (PyData.canLayAll0 ds && decide (PyData.depthAll ds + 1 ≤ 64)) = true
    rw [h2, decide_eq_true (by omega)]
    rfl
  · have e2 : PyData.eqv (.list ds) (.list []) = xs.isEmpty := by
      rw [← h4]
      cases ds <;> rfl
    rw [e2]
    exact k H1 (Ex.refl H1)
theorem ev_neNil {p : Addr} {xs : List V} {n : Nat} (ha : Ev ta σ H (.ref p)) (hp : SqL K H p xs) (hb : EvL tb σ H []) (hn : n ≤ 60) (h : ∀ H1, Ex H H1 → ∀ x ∈ xs, Dd K H1 x n) : Ev (tOp (rNeD K) ta tb) σ H (.bl (!xs.isEmpty)) :=
  ev_opL ha hb fun q H1 hq e => rv_neNil (ex_l e hp) (sq_of hq) hn fun H2 e2 => h H2 (e.trans e2)
theorem dd_ints (l : List Int) (n : Nat) : ∀ x ∈ iL l, Dd K H x n := fun x hx => by
  obtain ⟨i, _, rfl⟩ := List.mem_map.mp hx
  exact dd_int i n
/-! ### numbers or None -/
def oV : Option Int → V
  | some x => .int x
  | none => .non
theorem et_notN {v : V} (h : Ev te σ H v) : EvT (tB (tNotN te)) σ H (!decide (v = .non)) := fun H1 e Q q => h H1 e _ fun H2 e2 => ⟨_, rfl, q H2 e2⟩
theorem et_isN {v : V} (h : Ev te σ H v) : EvT (tB (tIsN te)) σ H (decide (v = .non)) := fun H1 e Q q => h H1 e _ fun H2 e2 => ⟨_, rfl, q H2 e2⟩
theorem oV_at {l : List (Option Int)} {i : Nat} (h : i < l.length) : atI (l.map oV) (i : Int) = some (oV (l.getD i none)) := by
  refine atI_nat ?_
  rw [List.getElem?_map, List.getElem?_eq_getElem h, List.getD_eq_getElem?_getD, List.getElem?_eq_getElem h]
  rfl
theorem ev_lot2 {a : Addr} {L : Pl} {i j : Nat} {q : Addr} {tn ts tl : TE} (hp : At K H a L) (ok : L.Ok) (hn : Ev tn σ H (.int (LP.seg (gd L.d) i j))) (hs : Ev ts σ H (.int (gd L.s i))) (hl : Ev tl σ H (.int (LP.vari L.pb i j))) :
    Ev (tIf (tTest (tOp (rI0 fun i j => .bl (decide (j < i))) tn (tC (.int 0)))) (tOp (rI0 fun i j => .int (i + j)) ts tl) (tC (.int 0))) σ H (.int (LP.lot L.pb i j)) := by
  have h0 : 0 ≤ LP.seg (gd L.d) i j := LP.seg_nonneg ok.pb.1 i j
  unfold LP.lot
  refine ev_if (et_test (ev_op hn ev_c rv_I0)) (fun hb => ?_) fun hb => ?_
  · have hb' : 0 < LP.seg (gd L.d) i j := of_decide_eq_true hb
    rw [if_neg (show ¬ LP.seg L.pb.d i j = 0 from fun z => by rw [show LP.seg L.pb.d i j = LP.seg (gd L.d) i j from rfl] at z; omega)]
    exact ev_op hs hl rv_I0
  · have hb' : ¬ 0 < LP.seg (gd L.d) i j := of_decide_eq_false hb
    rw [if_pos (show LP.seg L.pb.d i j = 0 by show LP.seg (gd L.d) i j = 0; omega)]
    exact ev_c
end
section
variable {P : Program} {w : World} {K : PySem.W.Frag} {mg : Str → Option Value} {base : Heap}
/-! ### without -/
abbrev sWo : Stmt := top 28
abbrev nWo : List Str := ["problem", "period", "found", "end", "fits", "start", "need", "lot", "at"]
theorem scWo : FnScope nWo ["problem", "period"] (defScope sWo) := ⟨rfl, rfl, rfl, by decide +kernel, rfl, by decide +kernel, by decide +kernel⟩
def spWo (K : PySem.W.Frag) : Sp := fun vs H Q _ => ∃ a L, ∃ p : Nat, vs = [.ref a, .int p] ∧ At K H a L ∧ L.Ok ∧ ∀ H', Ex H H' → Q (oV (LP.other L.pb p)) H'
theorem ok_wo (D : DefAt K mg "without" sWo) (T : Bts mg) (GP : Gd P w K mg base 1 "periods_of" ["problem"] (spPer K)) (GK : Gd P w K mg base 1 "kept" ["problem", "start", "goal"] (spKept K)) : Gd P w K mg base 2 "without" ["problem", "period"] (spWo K) := by
  refine gd_of D scWo (fun vs H Q E h => ?_) (fun _ _ _ _ _ _ us hl => match us, hl with | [_, _], _ => rfl) fun f cdv A outer s H vs Q E hr h => ?_
  · obtain ⟨a, L, p, rfl, _⟩ := h
    rfl
  · obtain ⟨a, L, p, rfl, hp, ok, k⟩ := h
    refine ⟨_, pss_cons (ps_set (i := 2) scWo.nd rfl (Or.inl rfl) (pe_lst (pa_cons pe_int pa_nil)))
      (pss_cons (ps_for PassesOwn.never rfl (pi_range2 rfl T.range (pa_cons pe_int (pa_cons (pe_op op_add (pe_go GP hr (by rfl) (pa_cons (pv 0) pa_nil)) pe_int) pa_nil))) (pg_name (i := 3) scWo.nd rfl (Or.inl rfl))
        (pss_cons (ps_set (i := 4) scWo.nd rfl (Or.inl rfl) (pe_lst pa_nil))
        (pss_cons (ps_for PassesOwn.never rfl (pi_range1 rfl T.range (pa_cons (pv 3) pa_nil)) (pg_name (i := 5) scWo.nd rfl (Or.inr rfl))
          (pss_cons (ps_set (i := 6) scWo.nd rfl (Or.inl rfl) (pe_callB (cr_sumT rfl) (by rfl) T.sum (by decide +kernel) (pa_cons (pe_slice sl_tupA (pe_ix ix_tup (pv 0) pe_int (fun _ _ => rfl)) (po_some (pv 5)) (po_some (pv 3))) pa_nil)))
          (pss_one (ps_if (pw_and (pt_cmp (pc_notN (pe_ix ix_list (pv 2) (pv 5) (fun _ _ => rfl)))) (pw_and1 (pw_or (pt_cmpR op_ne (pv 5) (pv 1) (nomark _)) (pw_or1 (pt_cmpR op_eq (pv 6) pe_int (nomark _)))).pt)).pt
            (pss_cons (ps_setLc (i := 7) (own := [("at", 8)]) (g := gName 8) (tt := tYes) rfl scWo.nd rfl rfl (sw_true rfl rfl rfl (by decide +kernel)) (pi_range2 rfl T.range (pa_cons (pv 5) (pa_cons (pv 3) pa_nil))) (blkOk_by (N := nWo) (sc := defScope sWo) (by decide +kernel))
              (fun _ _ _ _ _ => pg_name (i := 8) scWo.nd rfl (Or.inl rfl)) (fun _ _ _ _ _ => pts_nil)
              (fun _ _ _ _ _ => pe_op op_mul (pe_go GK hr (by rfl) (pa_cons (pv 0) (pa_cons (pv 5) (pa_cons (pv 8) pa_nil)))) (pe_ix (ixT K) (pe_ix (ixT K) (pv 0) pe_int (fun _ _ => rfl)) (pv 8) (fun _ _ => rfl))))
            (pss_one (ps_expr (pe_bm PySem.F.plainAttrs_list PySem.F.slot_list_append PySem.F.type_list_append mt_append (pv 4) (pa_cons
              (pe_op op_add (pe_ix ix_list (pv 2) (pv 5) (fun _ _ => rfl)) (pe_ifExp (pt_cmpR op_gt (pv 6) pe_int (nomark _)) (pe_op op_add (pe_ix ix_tup (pe_ix ix_tup (pv 0) pe_int (fun _ _ => rfl)) (pv 5) (fun _ _ => rfl)) (pe_callB (cr_sum rfl) (by rfl) T.sum (by decide +kernel) (pa_cons (pv 7) pa_nil))) pe_int)) pa_nil)))))
            pss_nil))))
        (pss_one (ps_expr (pe_bm PySem.F.plainAttrs_list PySem.F.slot_list_append PySem.F.type_list_append mt_append (pv 2) (pa_cons
          (pe_ifExp (pt_cmpR (op_neD hr.units) (pv 4) (pe_lst pa_nil) (nomark _)) (pe_callB (cr_min rfl) (by rfl) T.min (by decide +kernel) (pa_cons (pv 4) pa_nil)) pe_non) pa_nil)))))))
      (pss_one (ps_ret (pe_ix ix_list (pv 2) (pe_un un_neg pe_int) (fun _ _ => rfl))))), ?_⟩
    have n12 := ok.n12
    refine q_asgL (el_lst (ea_cons ev_c ea_nil) (by decide)) fun q H1 nq e1 hl => ?_
    have hp1 := hp.mono e1
    refine q_forR2 (lo := 1) (n := ((L.n + 1 : Nat) : Int)) (ea_cons ev_c (ea_cons (ev_is (ev_op (ev_per (ea_cons (ev_var rfl) ea_nil) hp1) ev_c rv_I0) (by rw [nat_succ])) ea_nil)) (by omega)
      (fun i σ' H' => ∃ v3 v4 v5 v6 v7, σ' = [some (.ref a), some (.int (p : Nat)), some (.ref q), v3, v4, v5, v6, v7, none] ∧ Ex H H' ∧ H' q = some (.lst ((LP.wo L.pb p i).map oV))) (fun H2 e2 => ⟨none, none, none, none, none, rfl, e1.trans e2, e2 q _ hl⟩) (fun i σ' H' hi hP => ?_) fun σ' H' hP => ?_
    · obtain ⟨v3, v4, v5, v6, v7, rfl, e2, hl2⟩ := hP
      have hi' : i < L.n := by omega
      have G := LP.wo_ok L.pb p i
      rw [one_nat]
      refine q_asgL (el_lst ea_nil (by decide)) fun g H3 ng e3 hg => ?_
      have hl3 := e3 q _ hl2
      refine q_forR1 (n := ((i + 1 : Nat) : Int)) (ea_cons (ev_var rfl) ea_nil) (by omega) (fun j σ' H'' => ∃ v5 v6 v7, σ' = [some (.ref a), some (.int (p : Nat)), some (.ref q), some (.int ((i + 1 : Nat) : Int)), some (.ref g), v5, v6, v7, none] ∧ Ex H' H'' ∧ H'' g = some (.lst (iL (LP.woFits L.pb p (LP.wo L.pb p i) (i + 1) j))))
        (fun H4 e4 => ⟨v5, v6, v7, rfl, e3.trans e4, e4 g _ hg⟩) (fun j σ' H4 hj hP => ?_) fun σ' H4 hP => ?_
      · obtain ⟨v5, v6, v7, rfl, e4, hg4⟩ := hP
        have hj' : j < i + 1 := by omega
        have e24 := e2.trans e4
        refine q_asg (ev_seg (part0 (ev_var rfl) (hp.mono e24)) (ev_var rfl) (ev_var rfl) (by omega) (by show i + 1 ≤ L.n; omega)) fun H5 e5 => ?_
        have hp5 := hp.mono (e24.trans e5)
        have hl5 : H5 q = some (.lst ((LP.wo L.pb p i).map oV)) := (e4.trans e5) q _ hl2
        have hg5 := e5 g _ hg4
        have hat : atI ((LP.wo L.pb p i).map oV) (j : Int) = some (oV ((LP.wo L.pb p i).getD j none)) := oV_at (by rw [G.len]; exact hj')
        have hsucc := LP.woFits_succ L.pb p (LP.wo L.pb p i) (i + 1) j
        cases hy : (LP.wo L.pb p i).getD j none with
        | none =>
          have hone : LP.woOne L.pb p (LP.wo L.pb p i) (i + 1) j = none := by
            unfold LP.woOne
            rw [hy]
          refine s_when (b := false) (et_and (a := false) (b := false) (et_is (et_notN (ev_ixL (ev_var rfl) (sq_of hl5) (ev_var rfl) hat)) (by rw [hy]; rfl)) fun z => nomatch z) (fun hb => nomatch hb) fun _ H6 e6 => ?_
          refine ⟨some (.int (j : Nat)), _, v7, rfl, (e4.trans e5).trans e6, ?_⟩
          rw [hsucc, hone]
          show H6 g = some (.lst (iL (_ ++ [])))
          rw [List.append_nil]
          exact e6 g _ hg5
        | some y =>
          rw [hy] at hat
          refine s_when (b := decide (j ≠ p ∨ LP.seg L.pb.d j (i + 1) = 0)) (et_is (et_and (et_notN (ev_ixL (ev_var rfl) (sq_of hl5) (ev_var rfl) hat)) fun _ => et_or (et_test (ev_op (ev_var rfl) (ev_var rfl) (rv_ne rfl))) fun _ => et_test (ev_op (ev_var rfl) ev_c (rv_eq rfl))) ?_) (fun hb H6 e6 => ?_) fun hb H6 e6 => ?_
          · show (true && (!decide (V.int (j : Nat) = V.int (p : Nat)) || decide (V.int (LP.seg L.pb.d j (i + 1)) = V.int 0))) = _
            rw [Bool.true_and]
            have h1 : decide (V.int (j : Nat) = V.int (p : Nat)) = decide (j = p) := decide_eq_decide.mpr ⟨fun z => by have := V.int.inj z; omega, fun z => by rw [z]⟩
            have h2 : decide (V.int (LP.seg L.pb.d j (i + 1)) = V.int 0) = decide (LP.seg L.pb.d j (i + 1) = 0) := decide_eq_decide.mpr ⟨fun z => V.int.inj z, fun z => by rw [z]⟩
            rw [h1, h2]
            by_cases c1 : j = p <;> by_cases c2 : LP.seg L.pb.d j (i + 1) = 0 <;> simp [c1, c2]
          · have hc := of_decide_eq_true hb
            have hp6 := hp5.mono e6
            have hone : LP.woOne L.pb p (LP.wo L.pb p i) (i + 1) j = some (y + LP.lot L.pb j (i + 1)) := by
              unfold LP.woOne
              rw [hy]
              show (if j ≠ p ∨ LP.seg L.pb.d j (i + 1) = 0 then some (y + LP.lot L.pb j (i + 1)) else none) = _
              rw [if_pos hc]
            refine q_asgL (el_rng (a := j) (b := i + 1) (fun t => LP.kept L.pb j t * gd L.d t) (ea_cons (ev_var rfl) (ea_cons (ev_var rfl) ea_nil)) (by omega) (by omega) (fun x => rfl) fun t H7 e7 ht1 ht2 => ?_) fun r H7 nr e7 hr7 => ?_
            · have hp7 := hp6.mono e7
              exact ev_op (ev_kept (ea_cons (ev_var rfl) (ea_cons (ev_var rfl) (ea_cons (ev_var rfl) ea_nil))) hp7 ok ht1 (by omega) (by omega)) (ev_gd (part0 (ev_var rfl) hp7) (ev_var rfl) (show t < L.n by omega)) (rv_mulR (gd_in ok.ed t))
            · have hp7 := hp6.mono e7
              have e67 := e6.trans e7
              refine s_app (e67 g _ hg5) (ev_var rfl) (ev_op (ev_ixL (ev_var rfl) (sq_of (e67 q _ hl5)) (ev_var rfl) hat) (ev_lot2 (q := q) hp7 ok (ev_var rfl) (ev_gd (part1 (ev_var rfl) hp7) (ev_var rfl) (by rw [ok.ls]; omega)) (ev_is (ev_sumR (ev_var rfl) (sq_of hr7)) (congrArg V.int (sum_range (fun t => LP.kept L.pb j t * gd L.d t) j _)))) rv_I0) ?_ fun H8 e8 => ?_
              · rw [List.length_map]
                have := List.length_filterMap_le (LP.woOne L.pb p (LP.wo L.pb p i) (i + 1)) (List.range j)
                rw [List.length_range] at this
                show (LP.woFits L.pb p (LP.wo L.pb p i) (i + 1) j).length < 100000
                unfold LP.woFits
                omega
              · refine ⟨some (.int (j : Nat)), _, _, rfl, Ex.mut (((e4.trans e5).trans e67).trans e8) ng, ?_⟩
                rw [upd_same, hsucc, hone]
                show some (HO.lst (iL _ ++ [V.int (y + LP.lot L.pb j (i + 1))])) = _
                rw [iL_snoc]
                rfl
          · have hc := of_decide_eq_false hb
            have hone : LP.woOne L.pb p (LP.wo L.pb p i) (i + 1) j = none := by
              unfold LP.woOne
              rw [hy]
              show (if j ≠ p ∨ LP.seg L.pb.d j (i + 1) = 0 then some (y + LP.lot L.pb j (i + 1)) else none) = _
              rw [if_neg hc]
            refine ⟨some (.int (j : Nat)), _, v7, rfl, (e4.trans e5).trans e6, ?_⟩
            rw [hsucc, hone]
            show H6 g = some (.lst (iL (_ ++ [])))
            rw [List.append_nil]
            exact e6 g _ hg5
      · obtain ⟨v5, v6, v7, rfl, e4, hg4⟩ := hP
        rw [Int.toNat_natCast] at hg4
        generalize hF : LP.woFits L.pb p (LP.wo L.pb p i) (i + 1) (i + 1) = F at hg4
        refine s_app (v := oV (LP.woMin F)) (e4 q _ hl2) (ev_var rfl) (ev_if (et_test (ev_neNil (n := 0) (ev_var rfl) (sq_of hg4) (el_lst ea_nil (by decide)) (by decide) fun H5 _ => dd_ints F 0)) (fun hb => ?_) fun hb => ?_) (by rw [List.length_map, G.len]; omega) fun H5 e5 => ?_
        · have hne : F ≠ [] := fun z => by
            rw [z] at hb
            cases hb
          unfold LP.woMin
          rw [if_neg hne]
          exact ev_minR (ev_var rfl) (sq_of hg4) hne
        · have hne : F = [] := by
            cases F with
            | nil => rfl
            | cons x r => cases hb
          unfold LP.woMin
          rw [if_pos hne]
          exact ev_c
        · refine ⟨_, _, v5, v6, v7, rfl, Ex.mut ((e2.trans e4).trans e5) nq, ?_⟩
          rw [upd_same, ← hF]
          show some (HO.lst ((LP.wo L.pb p i).map oV ++ [oV _])) = some (.lst ((LP.wo L.pb p i ++ [_]).map oV))
          rw [List.map_append]
          rfl
    · obtain ⟨v3, v4, v5, v6, v7, rfl, e2, hl2⟩ := hP
      have e : (((L.n + 1 : Nat) : Int) - 1).toNat = L.n := by omega
      rw [e] at hl2
      obtain ⟨l, hl⟩ : ∃ l, LP.wo L.pb p L.n = l ++ [LP.other L.pb p] := by
        show ∃ l, LP.wo L.pb p L.n = l ++ [(LP.wo L.pb p L.n).getD L.n none]
        have hlen : (LP.wo L.pb p L.n).length = L.n + 1 := (LP.wo_ok L.pb p L.n).len
        generalize LP.wo L.pb p L.n = z at hlen ⊢
        refine ⟨z.take L.n, ?_⟩
        have := List.take_append_drop L.n z
        rw [List.drop_eq_getElem_cons (show L.n < z.length by omega), List.drop_eq_nil_of_le (show z.length ≤ L.n + 1 by omega)] at this
        rw [List.getD_eq_getElem?_getD, List.getElem?_eq_getElem (show L.n < z.length by omega)]
        exact this.symm
      rw [hl, List.map_append] at hl2
      exact s_ret (ev_ixL (ev_var rfl) (sq_of hl2) (ev_un ev_c ru_neg) (atI_last _ _)) fun H3 e3 => k H3 (e2.trans e3)
end
end LW

set_option maxHeartbeats 4000000
namespace LW
open PySem PySem.Spec PyProof.Rows L2 Evl LR RZ
section
variable {K : PySem.W.Frag} {σ : L2.St} {H H' : Hp} {ta tb tc te : TE} {D : Ends} {tz : TS}
theorem es_cat {xs ys : List V} (h1 : EvS K ta σ H xs) (h2 : EvS K tb σ H ys) (hz : xs.length + ys.length ≤ 100000) : EvS K (tOp (rCatA K) ta tb) σ H (xs ++ ys) := fun H1 e Q q =>
  h1 H1 e _ fun p H2 e2 hp => h2 H2 (e.trans e2) _ fun p2 H3 e3 hp2 => ⟨p, p2, xs, ys, rfl, rfl, ex_t e3 hp, hp2, sz_of hz, fun z => by
      subst z
      exact q p2 H3 (e2.trans e3) hp2, fun _ z => by
      subst z
      rw [List.append_nil] at q
      exact q p H3 (e2.trans e3) (ex_t e3 hp), fun _ _ l hl => q l _ ((e2.trans e3).trans (Ex.new hl)) (st_of upd_same)⟩
theorem q_asgS {i : Nat} {xs : List V} (h : EvS K te σ H xs) (k : ∀ p H1, Ex H H1 → SqT K H1 p xs → tz D (σ.set i (some (.ref p))) H1) : tSeq (tAsg te (gName i)) tz D σ H := h H (Ex.refl H) _ fun p H1 e hp => k p H1 e hp
theorem sIx_lo (n : Nat) : HT.sIx n 0 none = 0 := rfl
theorem sIx_hi (n : Nat) : HT.sIx n n none = n := rfl
theorem cut_take {l : List Int} {p : Nat} (h : p ≤ l.length) : cutV (iL l) none (some (p : Int)) = iL (l.take p) := by
  unfold cutV
  rw [sIx_lo, HT.sIx_nat, List.length_map, Nat.min_eq_left h, List.drop_zero, Nat.sub_zero]
  unfold iL
  rw [List.map_take]
theorem cut_drop {l : List Int} {p : Nat} (h : p ≤ l.length) : cutV (iL l) (some (p : Int)) none = iL (l.drop p) := by
  unfold cutV
  rw [sIx_hi, HT.sIx_nat, List.length_map, Nat.min_eq_left h]
  unfold iL
  rw [← List.map_drop, List.take_of_length_le (by rw [List.length_map, List.length_drop]; exact Nat.le_refl _)]
end
/-! ### the problem with a free setup; a tail of a problem -/
def Pl.fr (L : Pl) (p : Nat) : Pl := { L with s := L.s.set p 0 }
theorem gd_set (l : List Int) (p i : Nat) : gd (l.set p 0) i = if i = p then 0 else gd l i := by
  unfold gd
  rw [List.getD_eq_getElem?_getD, List.getD_eq_getElem?_getD, List.getElem?_set]
  by_cases h : p = i
  · subst h
    rw [if_pos rfl, if_pos rfl]
    by_cases h2 : p < l.length
    · rw [if_pos h2]
      rfl
    · rw [if_neg h2]
      rfl
  · rw [if_neg h, if_neg (fun z => h z.symm)]
theorem fr_pb (L : Pl) (p : Nat) : (L.fr p).pb = LP.free L.pb p := by
  have e : gd (L.s.set p 0) = fun i => if i = p then 0 else gd L.s i := funext fun i => gd_set L.s p i
  show LP.Pb.mk L.n (gd L.d) (gd (L.s.set p 0)) (gd L.c) (gd L.h) = _
  rw [e]
  rfl
theorem fr_ok {L : Pl} (ok : L.Ok) (p : Nat) : (L.fr p).Ok :=
  ⟨ok.n1, ok.n12, by show (L.s.set p 0).length = L.n; rw [List.length_set]; exact ok.ls, ok.lc, ok.lh, ok.ed, fun x hx => by
    rcases List.mem_or_eq_of_mem_set hx with h | h
    · exact ok.es x h
    · rw [h]
      exact ⟨Int.le_refl _, by decide⟩, ok.ec, ok.eh⟩
def Pl.tl (L : Pl) (e : Nat) : Pl := ⟨L.d.drop e, L.s.drop e, L.c.drop e, L.h.drop e⟩
theorem gd_drop (l : List Int) (e i : Nat) : gd (l.drop e) i = gd l (i + e) := by
  unfold gd
  rw [List.getD_eq_getElem?_getD, List.getD_eq_getElem?_getD, List.getElem?_drop, Nat.add_comm]
theorem tl_n (L : Pl) (e : Nat) : (L.tl e).n = L.n - e := List.length_drop ..
theorem tl_pb (L : Pl) (e : Nat) : (L.tl e).pb = LP.tail L.pb e := by
  show LP.Pb.mk (L.tl e).n (gd (L.d.drop e)) (gd (L.s.drop e)) (gd (L.c.drop e)) (gd (L.h.drop e)) = _
  rw [tl_n, funext (gd_drop L.d e), funext (gd_drop L.s e), funext (gd_drop L.c e), funext (gd_drop L.h e)]
  rfl
theorem tl_ok {L : Pl} (ok : L.Ok) {e : Nat} (h : e < L.n) : (L.tl e).Ok :=
  ⟨by rw [tl_n]; omega, by have := ok.n12; rw [tl_n]; omega, by rw [tl_n]; show (L.s.drop e).length = _; rw [List.length_drop, ok.ls], by rw [tl_n]; show (L.c.drop e).length = _; rw [List.length_drop, ok.lc], by rw [tl_n]; show (L.h.drop e).length = _; rw [List.length_drop, ok.lh],
    fun x hx => ok.ed x (List.mem_of_mem_drop hx), fun x hx => ok.es x (List.mem_of_mem_drop hx), fun x hx => ok.ec x (List.mem_of_mem_drop hx), fun x hx => ok.eh x (List.mem_of_mem_drop hx)⟩
section
variable {P : Program} {w : World} {K : PySem.W.Frag} {mg : Str → Option Value} {base : Heap}
/-! ### with_free -/
abbrev sFr : Stmt := top 29
abbrev nFr : List Str := ["problem", "period", "setups"]
theorem scFr : FnScope nFr ["problem", "period"] (defScope sFr) := ⟨rfl, rfl, rfl, by decide +kernel, rfl, by decide +kernel, by decide +kernel⟩
def spFr (K : PySem.W.Frag) : Sp := fun vs H Q _ => ∃ a L, ∃ p : Nat, vs = [.ref a, .int p] ∧ At K H a L ∧ L.Ok ∧ p < L.n ∧ ∀ q H', Ex H H' → At K H' q (L.fr p) → Q (.ref q) H'
theorem set_cut {l : List Int} {p : Nat} (h : p < l.length) : iL (l.take p) ++ [V.int 0] ++ iL (l.drop (p + 1)) = iL (l.set p 0) := by
  rw [iL_snoc]
  unfold iL
  rw [← List.map_append, List.set_eq_take_append_cons_drop, if_pos h, List.append_assoc]
  rfl
theorem ok_fr (D : DefAt K mg "with_free" sFr) (T : Bts mg) : Gd P w K mg base 1 "with_free" ["problem", "period"] (spFr K) := by
  refine gd_of D scFr (fun vs H Q E h => ?_) (fun _ _ _ _ _ _ us hl => match us, hl with | [_, _], _ => rfl) fun f cdv A outer s H vs Q E hr h => ?_
  · obtain ⟨a, L, p, rfl, _⟩ := h
    rfl
  · obtain ⟨a, L, p, rfl, hp, ok, hpn, k⟩ := h
    refine ⟨_, pss_cons (ps_set (i := 2) scFr.nd rfl (Or.inl rfl) (pe_op op_catA (pe_op op_catA (pe_slice sl_tupA (pe_ix ix_tup (pv 0) pe_int (fun _ _ => rfl)) po_none (po_some (pv 1))) (pe_tup (pa_cons pe_int pa_nil)))
        (pe_slice sl_tupA (pe_ix ix_tup (pv 0) pe_int (fun _ _ => rfl)) (po_some (pe_op op_add (pv 1) pe_int)) po_none)))
      (pss_one (ps_ret (pe_tup (pa_cons (pe_ix ix_tup (pv 0) pe_int (fun _ _ => rfl)) (pa_cons (pv 2) (pa_cons (pe_ix ix_tup (pv 0) pe_int (fun _ _ => rfl)) (pa_cons (pe_ix ix_tup (pv 0) pe_int (fun _ _ => rfl)) pa_nil))))))), ?_⟩
    have n12 := ok.n12
    have hls := ok.ls
    refine q_asgS (xs := iL (L.s.set p 0)) (es_is (es_cat (es_cat (es_sl (part1 (ev_var rfl) hp) eo_none (eo_some (ev_var rfl))) (EvU.s (eu_tup (vs := [.int 0]) (ea_cons ev_c ea_nil) (by decide))) ?_) (es_sl (part1 (ev_var rfl) hp) (eo_some (ev_is (ev_op (ev_var rfl) ev_c rv_I0) (by rw [nat_succ]))) eo_none) ?_) ?_) fun q H1 e1 hq => ?_
    · rw [cut_take (by omega), List.length_map, List.length_take]
      show _ + 1 ≤ _
      omega
    · rw [cut_take (by omega), cut_drop (by omega), List.length_append, List.length_map, List.length_map, List.length_take, List.length_drop]
      show _ + 1 + _ ≤ _
      omega
    · rw [cut_take (by omega), cut_drop (by omega), set_cut (by omega)]
    · obtain ⟨a0, a1, a2, a3, g, h0, h1, h2, h3⟩ := (hp.mono e1).ex
      refine s_retU (eu_tup (ea_cons (ev_op (ev_var rfl) ev_c (rv_ixT g (atI_nat (j := 0) rfl))) (ea_cons (ev_var rfl) (ea_cons (ev_op (ev_var rfl) ev_c (rv_ixT g (atI_nat (j := 2) rfl))) (ea_cons (ev_op (ev_var rfl) ev_c (rv_ixT g (atI_nat (j := 3) rfl))) ea_nil)))) (by show 4 ≤ 100000; decide)) fun r H2 nr e2 hr2 => k r H2 (e1.trans e2) ⟨a0, q, a2, a3, st_of hr2, ex_t e2 h0, ex_t e2 hq, ex_t e2 h2, ex_t e2 h3⟩
end
end LW

set_option maxHeartbeats 4000000
namespace LW
open PySem PySem.Spec PyProof.Rows L2 Evl LR RZ
section
variable {K : PySem.W.Frag} {σ : L2.St} {H H' : Hp} {ta tb tc te tl : TE} {D : Ends} {tz : TS}
/-- [a tuple for each item of a tuple] -/
theorem lc_tups {xs : List V} {j : Nat} {vs : List Nat} (f : Nat → List V) (h : EvS K tl σ H xs) (hz : xs.length ≤ 40000) (hw : ∀ x, wipe ((wipe σ vs).set j (some x)) vs = wipe σ vs)
    (he : ∀ (i : Nat) (x : V) H1, Ex H H1 → xs[i]? = some x → EvS K te ((wipe σ vs).set j (some x)) H1 (f i)) :
    ∀ H0, Ex H H0 → ∀ Q : VK, (∀ p H2 (bs : List Addr), H0 p = none → Ex H0 H2 → H2 p = some (.lst (bs.map V.ref)) → bs.length = xs.length → (∀ i b, bs[i]? = some b → SqT K H2 b (f i)) → Q (.ref p) H2) → tLc (iTup K tl) (gName j) tYes te vs σ H0 Q := fun H0 e Q q =>
  h H0 e _ fun a H1 e1 ha => ⟨a, rfl, ⟨xs, ha⟩, fun Dl hD =>
    lc_tup (xs := xs) (fun i H' => ∃ bs : List Addr, H1 Dl = none ∧ Ex H1 H' ∧ H' Dl = some (.lst (bs.map V.ref)) ∧ bs.length = i ∧ ∀ i b, bs[i]? = some b → SqT K H' b (f i))
      ⟨[], hD, Ex.new hD, upd_same, rfl, fun i b z => by simp at z⟩ (fun i H' _ p => ex_t p.choose_spec.2.1 ha) (fun i x H' hi p => ⟨hw x, by
        obtain ⟨bs, hn, e2, hl, hlen, hall⟩ := p
        have hil := (List.getElem?_eq_some_iff.mp hi).1
        show te _ H' _
        refine he i x H' (e.trans (e1.trans e2)) hi H' (Ex.refl H') _ fun b H2 e3 hb => ?_
        refine ⟨_, e3 Dl _ hl, by rw [List.length_map]; exact sz_lt (by omega), bs ++ [b], hn, Ex.mut (e2.trans e3) hn, by rw [upd_same, List.map_append]; rfl, by rw [List.length_append, hlen]; rfl, fun i' b' hb' => ?_⟩
        have eB : ∀ (q : Addr) (ys : List V), SqT K H2 q ys → SqT K (upd H2 Dl (.lst (bs.map V.ref ++ [V.ref b]))) q ys := fun q ys hq => exb_t (ExB.upd (Ex.refl H2)) (e3 Dl _ hl) hq
        by_cases hlt : i' < bs.length
        · rw [List.getElem?_append_left hlt] at hb'
          exact eB _ _ (ex_t e3 (hall i' b' hb'))
        · rw [List.getElem?_append_right (by omega)] at hb'
          have e0 : i' - bs.length = 0 := by
            have := (List.getElem?_eq_some_iff.mp hb').1
            have h1 : i' - bs.length < 1 := this
            omega
          rw [e0] at hb'
          have e4 : b = b' := Option.some.inj hb'
          have e5 : i' = i := by omega
          rw [← e4, e5]
          exact eB _ _ hb⟩)
      (fun H' p => by
        obtain ⟨bs, hn, e2, hl, hlen, hall⟩ := p
        exact q Dl H' bs (fresh_back e1 hn) (e1.trans e2) hl hlen hall)⟩
/-- what evaluates to a problem -/
def EvP (K : PySem.W.Frag) (te : TE) (σ : L2.St) (H : Hp) (L : Pl) : Prop := ∀ H0, Ex H H0 → ∀ Q : VK, (∀ q H2, Ex H0 H2 → At K H2 q L → Q (.ref q) H2) → te σ H0 Q
theorem q_asgP {i : Nat} {L : Pl} (h : EvP K te σ H L) (k : ∀ q H1, Ex H H1 → At K H1 q L → tz D (σ.set i (some (.ref q))) H1) : tSeq (tAsg te (gName i)) tz D σ H := h H (Ex.refl H) _ fun q H1 e hq => k q H1 e hq
/-- tuple([part[end:] for part in problem]) -/
theorem tail_at {a : Addr} {L : Pl} {e : Nat} {j : Nat} {vs : List Nat} {te : TE} (ok : L.Ok) (hp : At K H a L) (hl : Ev tl σ H (.ref a)) (he : e ≤ L.n) (hw : ∀ x, wipe ((wipe σ vs).set j (some x)) vs = wipe σ vs)
    (hj : ∀ x, ((wipe σ vs).set j (some x))[j]? = some (some x)) (hi : ∀ x H1, Ev te ((wipe σ vs).set j (some x)) H1 (.int (e : Nat))) :
    EvP K (tCB (rTupS K) (tCons (tLc (iTup K tl) (gName j) tYes (tSl (rSlA K) (tVar j) (tPart te) tNoPart) vs) tNil)) σ H (L.tl e) := fun H0 e0 Q q => by
  obtain ⟨a0, a1, a2, a3, g, h0, h1, h2, h3⟩ := hp.ex
  have cut : ∀ l : List Int, l.length = L.n → ∀ {b : Addr} {H1 : Hp}, Ex H H1 → SqT K H b (iL l) → EvS K (tSl (rSlA K) (tVar j) (tPart te) tNoPart) ((wipe σ vs).set j (some (.ref b))) H1 (iL (l.drop e)) := fun l hl b H1 e1 hb =>
    es_is (es_sl (es_ref (ev_var (hj _)) (ex_t e1 hb)) (eo_some (hi _ _)) eo_none) (cut_drop (by omega))
  show tLc (iTup K tl) (gName j) tYes (tSl (rSlA K) (tVar j) (tPart te) tNoPart) vs σ H0 (fun x H1 => rTupS K [x] H1 Q)
  refine lc_tups (fun i => iL (([L.d, L.s, L.c, L.h].getD i []).drop e)) (es_ref hl g) (by show 4 ≤ 40000; decide) hw (fun i x H1 e1 hx => ?_) H0 e0 _ fun p H2 bs np e2 hp2 hlen hall => ?_
  · match i, hx with
    | 0, hx => cases hx; exact cut _ rfl e1 h0
    | 1, hx => cases hx; exact cut _ ok.ls e1 h1
    | 2, hx => cases hx; exact cut _ ok.lc e1 h2
    | 3, hx => cases hx; exact cut _ ok.lh e1 h3
    | n + 4, hx => simp at hx
  · match bs, hlen with
    | [b0, b1, b2, b3], _ =>
      refine ⟨p, _, rfl, .inl ⟨sq_of hp2, fun l hl => q l _ (e2.trans (Ex.new hl)) ⟨b0, b1, b2, b3, st_of upd_same, ?_, ?_, ?_, ?_⟩⟩⟩
      · exact ex_t (Ex.new hl) (hall 0 b0 rfl)
      · exact ex_t (Ex.new hl) (hall 1 b1 rfl)
      · exact ex_t (Ex.new hl) (hall 2 b2 rfl)
      · exact ex_t (Ex.new hl) (hall 3 b3 rfl)
theorem iL_last {l : List Int} {m : Nat} (h : l.length = m + 1) : atI (iL l) (-1) = some (.int (l.getD m 0)) := by
  generalize hz : l.getD m 0 = z
  have e : l = l.take m ++ [z] := by
    have := List.take_append_drop m l
    rw [List.drop_eq_getElem_cons (show m < l.length by omega), List.drop_eq_nil_of_le (show l.length ≤ m + 1 by omega)] at this
    rw [List.getD_eq_getElem?_getD, List.getElem?_eq_getElem (show m < l.length by omega)] at hz
    rw [← hz]
    exact this.symm
  rw [e]
  unfold iL
  rw [List.map_append]
  exact atI_last _ _
theorem q_par {i j : Nat} {v w : V} {ta : TA} (h : EvA ta σ H [v, w]) (k : ∀ H1, Ex H H1 → tz D ((σ.set i (some v)).set j (some w)) H1) : tSeq (tPar i j ta) tz D σ H := h H (Ex.refl H) _ fun H1 e => ⟨v, w, rfl, k H1 e⟩
end
section
variable {P : Program} {w : World} {K : PySem.W.Frag} {mg : Str → Option Value} {base : Heap}
/-! ### forced -/
abbrev sFcd : Stmt := top 33
abbrev nFcd : List Str := ["problem", "period", "many", "best", "ahead", "end", "lot", "tail", "cost", "at", "part"]
theorem scFcd : FnScope nFcd ["problem", "period"] (defScope sFcd) := ⟨rfl, rfl, rfl, by decide +kernel, rfl, by decide +kernel, by decide +kernel⟩
def spFcd (K : PySem.W.Frag) : Sp := fun vs H Q _ => ∃ a L, ∃ p : Nat, vs = [.ref a, .int p] ∧ At K H a L ∧ L.Ok ∧ p < L.n ∧ ∀ H', Ex H H' → Q (oV (LP.fcd L.pb p (L.n - p))) H'
theorem ok_fcd (D : DefAt K mg "forced" sFcd) (T : Bts mg) (GP : Gd P w K mg base 1 "periods_of" ["problem"] (spPer K)) (GK : Gd P w K mg base 1 "kept" ["problem", "start", "goal"] (spKept K)) (GS : Gd P w K mg base 3 "stages" ["problem"] (spStg K)) : Gd P w K mg base 4 "forced" ["problem", "period"] (spFcd K) := by
  refine gd_of D scFcd (fun vs H Q E h => ?_) (fun _ _ _ _ _ _ us hl => match us, hl with | [_, _], _ => rfl) fun f cdv A outer s H vs Q E hr h => ?_
  · obtain ⟨a, L, p, rfl, _⟩ := h
    rfl
  · obtain ⟨a, L, p, rfl, hp, ok, hpn, k⟩ := h
    have hr1 : Room 1 _ := hr.mono (by decide)
    refine ⟨_, pss_cons (ps_par (i := 2) (j := 3) rfl scFcd.nd rfl rfl (by decide) rfl rfl (pa_cons (pe_go GP hr1 (by rfl) (pa_cons (pv 0) pa_nil)) (pa_cons pe_non pa_nil)) (by rfl))
      (pss_cons (ps_set (i := 4) scFcd.nd rfl (Or.inl rfl) (pe_go GS hr (by rfl) (pa_cons (pv 0) pa_nil)))
      (pss_cons (ps_for PassesOwn.never rfl (pi_range2 rfl T.range (pa_cons (pe_op op_add (pv 1) pe_int) (pa_cons (pe_op op_add (pv 2) pe_int) pa_nil))) (pg_name (i := 5) scFcd.nd rfl (Or.inr rfl))
        (pss_one (ps_if (pt_cmpR op_gt (pe_callB (cr_sumT rfl) (by rfl) T.sum (by decide +kernel) (pa_cons (pe_slice sl_tupA (pe_ix ix_tup (pv 0) pe_int (fun _ _ => rfl)) (po_some (pv 1)) (po_some (pv 5))) pa_nil)) pe_int (nomark _))
          (pss_cons (ps_setLc (i := 6) (own := [("at", 9)]) (g := gName 9) (tt := tYes) rfl scFcd.nd rfl rfl (sw_true rfl rfl rfl (by decide +kernel)) (pi_range2 rfl T.range (pa_cons (pv 1) (pa_cons (pv 5) pa_nil))) (blkOk_by (N := nFcd) (sc := defScope sFcd) (by decide +kernel))
              (fun _ _ _ _ _ => pg_name (i := 9) scFcd.nd rfl (Or.inl rfl)) (fun _ _ _ _ _ => pts_nil)
              (fun _ _ _ _ _ => pe_op op_mul (pe_go GK hr1 (by rfl) (pa_cons (pv 0) (pa_cons (pv 1) (pa_cons (pv 9) pa_nil)))) (pe_ix (ixT K) (pe_ix (ixT K) (pv 0) pe_int (fun _ _ => rfl)) (pv 9) (fun _ _ => rfl))))
          (pss_cons (ps_set (i := 7) scFcd.nd rfl (Or.inl rfl) (pe_callTy call_tuple_of (by rfl) T.tuple PyProof.Rows.boot_tuple (pa_cons
              (pe_lc (own := [("part", 10)]) (g := gName 10) (tt := tYes) rfl scFcd.nd (pi_tup (pv 0)) (blkOk_by (N := nFcd) (sc := defScope sFcd) (by decide +kernel))
                (fun _ _ _ _ _ => pg_name (i := 10) scFcd.nd rfl (Or.inl rfl)) (fun _ _ _ _ _ => pts_nil)
                (fun _ _ _ _ _ => pe_slice (slT K) (pv 10) (po_some (pv 5)) po_none)) pa_nil)))
          (pss_cons (ps_set (i := 8) scFcd.nd rfl (Or.inl rfl) (pe_op op_add (pe_op op_add (pe_op op_add (pe_ix ix_list (pv 4) (pv 1) (fun _ _ => rfl)) (pe_ix ix_tup (pe_ix ix_tup (pv 0) pe_int (fun _ _ => rfl)) (pv 1) (fun _ _ => rfl)))
              (pe_callB (cr_sum rfl) (by rfl) T.sum (by decide +kernel) (pa_cons (pv 6) pa_nil)))
              (pe_ifExp (pt_cmpR op_lt (pv 5) (pv 2) (nomark _)) (pe_ix ix_list (pe_go GS hr (by rfl) (pa_cons (pv 7) pa_nil)) (pe_un un_neg pe_int) (fun _ _ => rfl)) pe_int)))
          (pss_one (ps_set (i := 3) scFcd.nd rfl (Or.inl rfl) (pe_ifExp (pt_cmp (pc_isN (pv 3))) (pv 8) (pe_callB (call_min2 rfl) (by rfl) T.min (by decide +kernel) (pa_cons (pv 3) (pa_cons (pv 8) pa_nil)))))))))
          pss_nil)))
      (pss_one (ps_ret (pv 3))))), ?_⟩
    have n12 := ok.n12
    refine q_par (ea_cons (ev_per (ea_cons (ev_var rfl) ea_nil) hp) (ea_cons ev_c ea_nil)) fun H1 e1 => ?_
    have hp1 := hp.mono e1
    refine q_asgL (el_stg (ea_cons (ev_var rfl) ea_nil) hp1 ok) fun g H2 ng e2 hg => ?_
    have e12 := e1.trans e2
    have F := LP.stg_ok L.pb L.n
    refine q_forR2 (lo := ((p + 1 : Nat) : Int)) (n := ((L.n + 1 : Nat) : Int)) (ea_cons (ev_is (ev_op (ev_var rfl) ev_c rv_I0) (by rw [nat_succ])) (ea_cons (ev_is (ev_op (ev_var rfl) ev_c rv_I0) (by rw [nat_succ])) ea_nil)) (by omega)
      (fun i σ' H' => ∃ v5 v6 v7 v8, σ' = [some (.ref a), some (.int (p : Nat)), some (.int (L.n : Nat)), some (oV (LP.fcd L.pb p i)), some (.ref g), v5, v6, v7, v8, none, none] ∧ Ex H H' ∧ H' g = some (.lst (iL (LP.stg L.pb L.n)))) (fun H3 e3 => ⟨none, none, none, none, rfl, e12.trans e3, e3 g _ hg⟩) (fun i σ' H' hi hP => ?_) fun σ' H' hP => ?_
    · obtain ⟨v5, v6, v7, v8, rfl, e3, hg3⟩ := hP
      have hi' : p + 1 + i ≤ L.n := by omega
      rw [show ((p + 1 : Nat) : Int) + (i : Nat) = ((p + 1 + i : Nat) : Int) by omega]
      have hp3 := hp.mono e3
      refine s_when (b := decide (0 < LP.seg L.pb.d p (p + 1 + i))) (et_test (ev_op (ev_seg (part0 (ev_var rfl) hp3) (ev_var rfl) (ev_var rfl) (by omega) (by show p + 1 + i ≤ L.n; omega)) ev_c rv_I0)) (fun hb H4 e4 => ?_) fun hb H4 e4 => ?_
      · have hc := of_decide_eq_true hb
        have e34 := e3.trans e4
        have hp4 := hp.mono e34
        refine q_asgL (el_rng (a := p) (b := p + 1 + i) (fun t => LP.kept L.pb p t * gd L.d t) (ea_cons (ev_var rfl) (ea_cons (ev_var rfl) ea_nil)) (by omega) (by omega) (fun x => rfl) fun t H5 e5 ht1 ht2 => ?_) fun r H5 nr e5 hr5 => ?_
        · have hp5 := hp4.mono e5
          exact ev_op (ev_kept (ea_cons (ev_var rfl) (ea_cons (ev_var rfl) (ea_cons (ev_var rfl) ea_nil))) hp5 ok ht1 (by omega) (by omega)) (ev_gd (part0 (ev_var rfl) hp5) (ev_var rfl) (show t < L.n by omega)) (rv_mulR (gd_in ok.ed t))
        · have hp5 := hp4.mono e5
          refine q_asgP (tail_at (e := p + 1 + i) ok hp5 (ev_var rfl) hi' (fun x => rfl) (fun x => rfl) (fun x H6 => ev_var rfl)) fun q H6 e6 hq => ?_
          have hp6 := hp5.mono e6
          have e46 := e4.trans (e5.trans e6)
          refine q_asg (v := .int (LP.fcdC L.pb p (p + 1 + i))) (ev_op (ev_op (ev_op (ev_ixL (ev_var rfl) (sq_of (e46 g _ hg3)) (ev_var rfl) (at_gd (i := p) (by rw [F.len]; omega))) (ev_gd (i := p) (part1 (ev_var rfl) hp6) (ev_var rfl) (by rw [ok.ls]; exact hpn)) rv_I0)
            (ev_is (ev_sumR (ev_var rfl) (sq_of (e6 r _ hr5))) (congrArg V.int (sum_range (fun t => LP.kept L.pb p t * gd L.d t) p _))) rv_I0)
            (ev_if (v := .int (LP.tlOf L.pb (p + 1 + i))) (et_test (ev_op (ev_var rfl) (ev_var rfl) rv_I0)) (fun hb2 => ?_) fun hb2 => ?_) rv_I0) fun H7 e7 => ?_
          · have hlt : p + 1 + i < L.n := by
              have := of_decide_eq_true hb2
              omega
            have F2 := LP.stg_ok (L.tl (p + 1 + i)).pb (L.tl (p + 1 + i)).n
            refine ev_ixNL (el_stg (ea_cons (ev_var rfl) ea_nil) hq (tl_ok ok hlt)) (ev_un ev_c ru_neg) ?_
            rw [show (-1 : Int) = -1 from rfl, iL_last F2.len]
            unfold LP.tlOf
            rw [tl_pb, tl_n, if_pos (show p + 1 + i < L.pb.n from hlt)]
            rfl
          · have hlt : ¬ p + 1 + i < L.n := by
              have := of_decide_eq_false hb2
              omega
            unfold LP.tlOf
            rw [if_neg (show ¬ p + 1 + i < L.pb.n from hlt)]
            exact ev_c
          · have hsucc : LP.fcd L.pb p (i + 1) = some (match LP.fcd L.pb p i with | none => LP.fcdC L.pb p (p + 1 + i) | some b => if LP.fcdC L.pb p (p + 1 + i) < b then LP.fcdC L.pb p (p + 1 + i) else b) := by
              show (if 0 < LP.seg L.pb.d p (p + 1 + i) then _ else LP.fcd L.pb p i) = _
              exact (if_pos hc).trans (by cases LP.fcd L.pb p i <;> rfl)
            refine s_asg (v := oV (LP.fcd L.pb p (i + 1))) (ev_if (et_isN (ev_var rfl)) (fun hb2 => ?_) fun hb2 => ?_) fun H8 e8 => ⟨some (.int ((p + 1 + i : Nat) : Int)), some (.ref r), some (.ref q), some (.int (LP.fcdC L.pb p (p + 1 + i))), rfl, e3.trans ((e46.trans e7).trans e8), ((e46.trans e7).trans e8) g _ hg3⟩
            · have hn : LP.fcd L.pb p i = none := by
                cases h : LP.fcd L.pb p i with
                | none => rfl
                | some b =>
                  rw [h] at hb2
                  cases hb2
              rw [hsucc, hn]
              exact ev_var rfl
            · cases h : LP.fcd L.pb p i with
              | none =>
                rw [h] at hb2
                cases hb2
              | some b =>
                rw [hsucc, h]
                exact ev_cb (ea_cons (ev_var rfl) (ea_cons (ev_var rfl) ea_nil)) fun H9 _ Q q => ⟨b, _, rfl, q H9 (Ex.refl H9)⟩
      · have hc := of_decide_eq_false hb
        refine ⟨some (.int ((p + 1 + i : Nat) : Int)), v6, v7, v8, ?_, e3.trans e4, e4 g _ hg3⟩
        have hsucc : LP.fcd L.pb p (i + 1) = LP.fcd L.pb p i := by
          show (if 0 < LP.seg L.pb.d p (p + 1 + i) then _ else LP.fcd L.pb p i) = _
          rw [if_neg hc]
        rw [hsucc]
        rfl
    · obtain ⟨v5, v6, v7, v8, rfl, e3, hg3⟩ := hP
      rw [show (((L.n + 1 : Nat) : Int) - ((p + 1 : Nat) : Int)).toNat = L.n - p by omega]
      exact s_ret (ev_var rfl) fun H4 e4 => k H4 (e3.trans e4)
end
end LW

set_option maxHeartbeats 4000000
namespace LW
open PySem PySem.Spec PyProof.Rows L2 Evl LR RZ
section
variable {K : PySem.W.Frag} {σ : L2.St} {H H' : Hp} {te : TE} {ta : TA}
theorem ep_fr {a : Addr} {L : Pl} {p : Nat} (h : EvA ta σ H [.ref a, .int p]) (hp : At K H a L) (ok : L.Ok) (hpn : p < L.n) : EvP K (tCall (spFr K) [] E0 ta) σ H (L.fr p) := fun H1 e Q q =>
  h H1 e _ fun H2 e2 => ⟨a, L, p, rfl, hp.mono (e.trans e2), ok, hpn, fun c H3 e3 hc => q c H3 (e2.trans e3) hc⟩
theorem ev_wo {a : Addr} {L : Pl} {p : Nat} (h : EvA ta σ H [.ref a, .int p]) (hp : At K H a L) (ok : L.Ok) : Ev (tCall (spWo K) [] E0 ta) σ H (oV (LP.other L.pb p)) :=
  ev_call h fun H1 e Q q E => ⟨a, L, p, rfl, hp.mono e, ok, q⟩
theorem ev_free {tb tc : TE} {L : Pl} {p : Nat} (ha : EvP K tb σ H (L.fr p)) (hb : ∀ H1, Ex H H1 → Ev tc σ H1 (.int (p : Nat))) (ok : L.Ok) (hpn : p < L.n) : Ev (tCall (spFcd K) [] E0 (tCons tb (tCons tc tNil))) σ H (oV (LP.freeOf L.pb p)) := fun H1 e Q q =>
  ha H1 e _ fun c H2 e2 hc => hb H2 (e.trans e2) H2 (Ex.refl H2) _ fun H3 e3 => ⟨c, L.fr p, p, rfl, hc.mono e3, fr_ok ok p, hpn, fun H4 e4 => by
    rw [fr_pb]
    exact q H4 ((e2.trans e3).trans e4)⟩
theorem oV_non {o : Option Int} : decide (oV o = .non) = o.isNone := by
  cases o <;> rfl
end
section
variable {P : Program} {w : World} {K : PySem.W.Frag} {mg : Str → Option Value} {base : Heap}
/-! ### worth_of, worth -/
abbrev sWof : Stmt := top 32
abbrev nWof : List Str := ["problem", "period", "other", "free"]
theorem scWof : FnScope nWof ["problem", "period"] (defScope sWof) := ⟨rfl, rfl, rfl, by decide +kernel, rfl, by decide +kernel, by decide +kernel⟩
def spWof (K : PySem.W.Frag) : Sp := fun vs H Q _ => ∃ a L, ∃ p : Nat, vs = [.ref a, .int p] ∧ At K H a L ∧ L.Ok ∧ p < L.n ∧ ∀ H', Ex H H' → Q (oV (LP.worthOf L.pb p)) H'
theorem ok_wof (D : DefAt K mg "worth_of" sWof) (T : Bts mg) (GW : Gd P w K mg base 2 "without" ["problem", "period"] (spWo K)) (GR : Gd P w K mg base 1 "with_free" ["problem", "period"] (spFr K)) (GF : Gd P w K mg base 4 "forced" ["problem", "period"] (spFcd K)) :
    Gd P w K mg base 5 "worth_of" ["problem", "period"] (spWof K) := by
  refine gd_of D scWof (fun vs H Q E h => ?_) (fun _ _ _ _ _ _ us hl => match us, hl with | [_, _], _ => rfl) fun f cdv A outer s H vs Q E hr h => ?_
  · obtain ⟨a, L, p, rfl, _⟩ := h
    rfl
  · obtain ⟨a, L, p, rfl, hp, ok, hpn, k⟩ := h
    have hr1 : Room 1 _ := hr.mono (by decide)
    have hr2 : Room 2 _ := hr.mono (by decide)
    refine ⟨_, pss_cons (ps_par (i := 2) (j := 3) rfl scWof.nd rfl rfl (by decide) rfl rfl (pa_cons (pe_go GW hr2 (by rfl) (pa_cons (pv 0) (pa_cons (pv 1) pa_nil)))
        (pa_cons (pe_go GF hr (by rfl) (pa_cons (pe_go GR hr1 (by rfl) (pa_cons (pv 0) (pa_cons (pv 1) pa_nil))) (pa_cons (pv 1) pa_nil))) pa_nil)) (by rfl))
      (pss_cons (ps_if (pt_cmp (pc_isN (pv 2))) (pss_one (ps_ret pe_non)) pss_nil)
      (pss_one (ps_ret (pe_ifExp (pw_or (pt_cmp (pc_isN (pv 3))) (pw_or1 (pt_cmpR op_gt (pv 3) (pv 2) (nomark _)))).pt (pe_un un_neg pe_int) (pe_op op_sub (pv 2) (pv 3)))))), ?_⟩
    refine q_par (ea_cons (ev_wo (ea_cons (ev_var rfl) (ea_cons (ev_var rfl) ea_nil)) hp ok) (ea_cons (ev_free (ep_fr (ea_cons (ev_var rfl) (ea_cons (ev_var rfl) ea_nil)) hp ok hpn) (fun _ _ => ev_var rfl) ok hpn) ea_nil)) fun H1 e1 => ?_
    unfold LP.worthOf at k
    cases ho : LP.other L.pb p with
    | none =>
      rw [ho] at k
      exact q_when (b := true) (et_isN (v := .non) (ev_var rfl)) (fun _ H2 e2 => s_ret ev_c fun H3 e3 => k H3 (e1.trans (e2.trans e3))) fun hb => nomatch hb
    | some o =>
      rw [ho] at k
      refine q_when (b := false) (et_isN (v := .int o) (ev_var rfl)) (fun hb => nomatch hb) fun _ H2 e2 => ?_
      cases hf : LP.freeOf L.pb p with
      | none =>
        rw [hf] at k
        exact s_ret (v := .int (-1)) (ev_if (b := true) (et_or (a := true) (b := true) (et_isN (v := .non) (ev_var rfl)) fun z => nomatch z) (fun _ => ev_un ev_c ru_neg) fun hb => nomatch hb) fun H3 e3 => k H3 (e1.trans (e2.trans e3))
      | some f =>
        rw [hf] at k
        refine s_ret (v := oV (if f > o then some (-1) else some (o - f))) (ev_if (b := decide (o < f)) (et_is (et_or (a := false) (et_isN (v := .int f) (ev_var rfl)) fun _ => et_test (ev_op (ev_var rfl) (ev_var rfl) rv_I0)) (Bool.false_or _)) (fun hb => ?_) fun hb => ?_) fun H3 e3 => k H3 (e1.trans (e2.trans e3))
        · rw [if_pos (show f > o from of_decide_eq_true hb)]
          exact ev_un ev_c ru_neg
        · rw [if_neg (show ¬ f > o from of_decide_eq_false hb)]
          exact ev_op (ev_var rfl) (ev_var rfl) rv_I0
theorem ev_wof {σ : L2.St} {H : Hp} {ta : TA} {a : Addr} {L : Pl} {p : Nat} (h : EvA ta σ H [.ref a, .int p]) (hp : At K H a L) (ok : L.Ok) (hpn : p < L.n) : Ev (tCall (spWof K) [] E0 ta) σ H (oV (LP.worthOf L.pb p)) :=
  ev_call h fun H1 e Q q E => ⟨a, L, p, rfl, hp.mono e, ok, hpn, q⟩
abbrev sWor : Stmt := top 31
theorem scWor : FnScope ["problem", "period"] ["problem", "period"] (defScope sWor) := ⟨rfl, rfl, rfl, by decide +kernel, rfl, by decide +kernel, by decide +kernel⟩
theorem ok_wor (D : DefAt K mg "worth" sWor) (T : Bts mg) (GN : Gd P w K mg base 3 "need_problem" ["value"] (spNpr K)) (GE : Gd P w K mg base 3 "need_period" ["problem", "period"] (spNpe K)) (GW : Gd P w K mg base 5 "worth_of" ["problem", "period"] (spWof K)) :
    Gd P w K mg base 6 "worth" ["problem", "period"] (spWof K) := by
  refine gd_of D scWor (fun vs H Q E h => ?_) (fun _ _ _ _ _ _ us hl => match us, hl with | [_, _], _ => rfl) fun f cdv A outer s H vs Q E hr h => ?_
  · obtain ⟨a, L, p, rfl, _⟩ := h
    rfl
  · obtain ⟨a, L, p, rfl, hp, ok, hpn, k⟩ := h
    have hr3 : Room 3 _ := hr.mono (by decide)
    refine ⟨_, pss_cons (ps_expr (pe_go GN hr3 (by rfl) (pa_cons (pv 0) pa_nil))) (pss_cons (ps_expr (pe_go GE hr3 (by rfl) (pa_cons (pv 0) (pa_cons (pv 1) pa_nil)))) (pss_one (ps_ret (pe_go GW hr (by rfl) (pa_cons (pv 0) (pa_cons (pv 1) pa_nil)))))), ?_⟩
    exact q_drop (ev_npr (ea_cons (ev_var rfl) ea_nil) hp ok) fun H1 e1 => q_drop (ev_npe (ea_cons (ev_var rfl) (ea_cons (ev_var rfl) ea_nil)) (hp.mono e1) hpn) fun H2 e2 =>
      s_ret (ev_wof (ea_cons (ev_var rfl) (ea_cons (ev_var rfl) ea_nil)) (hp.mono (e1.trans e2)) ok hpn) fun H3 e3 => k H3 ((e1.trans e2).trans e3)
/-! ### setup_range -/
abbrev sRng : Stmt := top 34
abbrev nRng : List Str := ["problem", "plan", "period", "paid", "other", "free"]
theorem scRng : FnScope nRng ["problem", "plan", "period"] (defScope sRng) := ⟨rfl, rfl, rfl, by decide +kernel, rfl, by decide +kernel, by decide +kernel⟩
def RngR (Q : VK) (H : Hp) : Option (Int × Option Int) → Prop
  | none => ∀ H', Ex H H' → Q .non H'
  | some (r, w) => ∀ q H', Ex H H' → H' q = some (.tup [.int r, oV w]) → Q (.ref q) H'
def spRng (K : PySem.W.Frag) : Sp := fun vs H Q _ => ∃ a b L x, ∃ p : Nat, vs = [.ref a, .ref b, .int p] ∧ At K H a L ∧ L.Ok ∧ SqT K H b (iL x) ∧ PlanOk L x ∧ p < L.n ∧ RngR Q H (LP.rng L.pb (LP.costL L.pb x) (decide (0 < gd x p)) p)
theorem ev_npl2 {σ : L2.St} {H : Hp} {t : TA} {a b : Addr} {L : Pl} {x : List Int} (h : EvA t σ H [.ref a, .ref b]) (hp : At K H a L) (ok : L.Ok) (hx : SqT K H b (iL x)) (po : PlanOk L x) : Ev (tCall (spNpl K) [] E0 t) σ H .non :=
  ev_call h fun H1 e Q q E => ⟨a, b, L, x, rfl, hp.mono e, ok, ex_t e hx, po, q⟩
theorem ok_rng (D : DefAt K mg "setup_range" sRng) (T : Bts mg) (GB : Gd P w K mg base 4 "need_both" ["problem", "plan"] (spNpl K)) (GE : Gd P w K mg base 3 "need_period" ["problem", "period"] (spNpe K)) (GC : Gd P w K mg base 2 "cost_of" ["problem", "plan"] (spCst K))
    (GW : Gd P w K mg base 2 "without" ["problem", "period"] (spWo K)) (GR : Gd P w K mg base 1 "with_free" ["problem", "period"] (spFr K)) (GF : Gd P w K mg base 4 "forced" ["problem", "period"] (spFcd K)) : Gd P w K mg base 5 "setup_range" ["problem", "plan", "period"] (spRng K) := by
  refine gd_of D scRng (fun vs H Q E h => ?_) (fun _ _ _ _ _ _ us hl => match us, hl with | [_, _, _], _ => rfl) fun f cdv A outer s H vs Q E hr h => ?_
  · obtain ⟨a, b, L, x, p, rfl, _⟩ := h
    rfl
  · obtain ⟨a, b, L, x, p, rfl, hp, ok, hx, po, hpn, k⟩ := h
    have hr1 : Room 1 _ := hr.mono (by decide)
    have hr2 : Room 2 _ := hr.mono (by decide)
    have hr3 : Room 3 _ := hr.mono (by decide)
    refine ⟨_, pss_cons (ps_expr (pe_go GB hr (by rfl) (pa_cons (pv 0) (pa_cons (pv 1) pa_nil))))
      (pss_cons (ps_expr (pe_go GE hr3 (by rfl) (pa_cons (pv 0) (pa_cons (pv 2) pa_nil))))
      (pss_cons (ps_set (i := 3) scRng.nd rfl (Or.inl rfl) (pe_op op_sub (pe_go GC hr2 (by rfl) (pa_cons (pv 0) (pa_cons (pv 1) pa_nil)))
        (pe_ifExp (pt_cmpR op_gt (pe_ix ix_tup (pv 1) (pv 2) (fun _ _ => rfl)) pe_int (nomark _)) (pe_ix ix_tup (pe_ix ix_tup (pv 0) pe_int (fun _ _ => rfl)) (pv 2) (fun _ _ => rfl)) pe_int)))
      (pss_cons (ps_par (i := 4) (j := 5) rfl scRng.nd rfl rfl (by decide) rfl rfl (pa_cons (pe_go GW hr2 (by rfl) (pa_cons (pv 0) (pa_cons (pv 2) pa_nil)))
        (pa_cons (pe_go GF hr (by rfl) (pa_cons (pe_go GR hr1 (by rfl) (pa_cons (pv 0) (pa_cons (pv 2) pa_nil))) (pa_cons (pv 2) pa_nil))) pa_nil)) (by rfl))
      (pss_cons (ps_if (pt_cmpR op_gt (pe_ix ix_tup (pv 1) (pv 2) (fun _ _ => rfl)) pe_int (nomark _))
          (pss_cons (ps_if (pw_or (pt_cmp (pc_isN (pv 5))) (pw_or (pt_cmpR op_gt (pv 3) (pv 5) (nomark _)) (pw_or1 (pw_and (pt_cmp (pc_notN (pv 4))) (pw_and1 (pt_cmpR op_gt (pv 3) (pv 4) (nomark _)))).pt))).pt (pss_one (ps_ret pe_non)) pss_nil)
          (pss_one (ps_ret (pe_tup (pa_cons pe_int (pa_cons (pe_ifExp (pt_cmp (pc_isN (pv 4))) pe_non (pe_op op_sub (pv 4) (pv 3))) pa_nil))))))
          pss_nil)
      (pss_cons (ps_if (pw_or (pt_cmp (pc_isN (pv 4))) (pw_or1 (pt_cmpR op_gt (pv 3) (pv 4) (nomark _)))).pt (pss_one (ps_ret pe_non)) pss_nil)
      (pss_one (ps_ret (pe_tup (pa_cons (pe_ifExp (pt_cmp (pc_isN (pv 5))) pe_int (pe_callB (call_max2 rfl) (by rfl) T.max (by decide +kernel) (pa_cons pe_int (pa_cons (pe_op op_sub (pv 3) (pv 5)) pa_nil)))) (pa_cons pe_non pa_nil)))))))))), ?_⟩
    refine q_drop (ev_npl2 (ea_cons (ev_var rfl) (ea_cons (ev_var rfl) ea_nil)) hp ok hx po) fun H1 e1 => ?_
    refine q_drop (ev_npe (ea_cons (ev_var rfl) (ea_cons (ev_var rfl) ea_nil)) (hp.mono e1) hpn) fun H2 e2 => ?_
    have e12 := e1.trans e2
    have hp2 := hp.mono e12
    have hx2 : SqT K H2 b (iL x) := ex_t e12 hx
    have hpx : p < x.length := by rw [po.len]; exact hpn
    generalize hC : LP.costL L.pb x = C at k
    refine q_asg (v := .int (if 0 < gd x p then C - gd L.s p else C)) (ev_is (ev_op (ev_cst (ea_cons (ev_var rfl) (ea_cons (ev_var rfl) ea_nil)) hp2 ok hx2 po.len) (ev_if (v := .int (if 0 < gd x p then gd L.s p else 0)) (et_test (ev_op (ev_gd (i := p) (es_ref (ev_var rfl) hx2) (ev_var rfl) hpx) ev_c rv_I0)) (fun hb => ?_) fun hb => ?_) rv_I0) ?_) fun H3 e3 => ?_
    · rw [if_pos (of_decide_eq_true hb)]
      exact ev_gd (i := p) (part1 (ev_var rfl) hp2) (ev_var rfl) (by rw [ok.ls]; exact hpn)
    · rw [if_neg (of_decide_eq_false hb)]
      exact ev_c
    · rw [hC]
      split <;> simp
    have e13 := e12.trans e3
    have hp3 := hp.mono e13
    refine q_par (ea_cons (ev_wo (ea_cons (ev_var rfl) (ea_cons (ev_var rfl) ea_nil)) hp3 ok) (ea_cons (ev_free (ep_fr (ea_cons (ev_var rfl) (ea_cons (ev_var rfl) ea_nil)) hp3 ok hpn) (fun _ _ => ev_var rfl) ok hpn) ea_nil)) fun H4 e4 => ?_
    have e14 := e13.trans e4
    unfold LP.rng at k
    refine q_when (b := decide (0 < gd x p)) (et_test (ev_op (ev_gd (i := p) (es_ref (ev_var rfl) (ex_t e14 hx)) (ev_var rfl) hpx) ev_c rv_I0)) (fun hb H5 e5 => ?_) fun hb H5 e5 => ?_
    · rw [if_pos hb] at k
      rw [if_pos (of_decide_eq_true hb)]
      rw [show L.pb.s p = gd L.s p from rfl] at k
      generalize hd : C - gd L.s p = paid at k ⊢
      have e15 := e14.trans e5
      cases hf : LP.freeOf L.pb p with
      | none =>
        rw [hf] at k
        exact q_when (b := true) (et_or (a := true) (b := true) (et_isN (v := .non) (ev_var rfl)) fun z => nomatch z) (fun _ H6 e6 => s_ret ev_c fun H7 e7 => k H7 (e15.trans (e6.trans e7))) fun hb => nomatch hb
      | some g =>
        rw [hf] at k
        cases ho : LP.other L.pb p with
        | none =>
          rw [ho] at k
          refine q_when (b := decide (g < paid)) (et_is (et_or (a := false) (et_isN (v := .int g) (ev_var rfl)) fun _ => et_or (et_test (ev_op (ev_var rfl) (ev_var rfl) rv_I0)) fun _ => et_and (a := false) (b := false) (et_notN (v := .non) (ev_var rfl)) fun z => nomatch z) (by simp)) (fun hb H6 e6 => ?_) fun hb H6 e6 => ?_
          · have hc : paid > g := of_decide_eq_true hb
            have k2 : RngR Q H (if paid > g then none else some (0, none)) := k
            rw [if_pos hc] at k2
            exact s_ret ev_c fun H7 e7 => k2 H7 (e15.trans (e6.trans e7))
          · have hc : ¬ paid > g := of_decide_eq_false hb
            have k2 : RngR Q H (if paid > g then none else some (0, none)) := k
            rw [if_neg hc] at k2
            exact s_retU (eu_tup (vs := [.int 0, .non]) (ea_cons ev_c (ea_cons (ev_if (b := true) (et_isN (v := .non) (ev_var rfl)) (fun _ => ev_c) fun z => nomatch z) ea_nil)) (by decide)) fun q H7 nq e7 hq => k2 q H7 (e15.trans (e6.trans e7)) hq
        | some o =>
          rw [ho] at k
          refine q_when (b := decide (g < paid) || decide (o < paid)) (et_is (et_or (a := false) (et_isN (v := .int g) (ev_var rfl)) fun _ => et_or (et_test (ev_op (ev_var rfl) (ev_var rfl) rv_I0)) fun _ => et_and (a := true) (et_notN (v := .int o) (ev_var rfl)) fun _ => et_test (ev_op (ev_var rfl) (ev_var rfl) rv_I0)) (by simp)) (fun hb H6 e6 => ?_) fun hb H6 e6 => ?_
          · have k2 : RngR Q H (if paid > g then none else if paid > o then none else some (0, some (o - paid))) := k
            have k3 : RngR Q H none := by
              by_cases hc : paid > g
              · rw [if_pos hc] at k2
                exact k2
              · rw [if_neg hc] at k2
                have hc2 : paid > o := by
                  have hb' : (decide (g < paid) || decide (o < paid)) = true := hb
                  rw [decide_eq_false (show ¬ g < paid from hc), Bool.false_or] at hb'
                  exact of_decide_eq_true hb'
                rw [if_pos hc2] at k2
                exact k2
            exact s_ret ev_c fun H7 e7 => k3 H7 (e15.trans (e6.trans e7))
          · have k2 : RngR Q H (if paid > g then none else if paid > o then none else some (0, some (o - paid))) := k
            have hb' : (decide (g < paid) || decide (o < paid)) = false := hb
            rw [Bool.or_eq_false_iff] at hb'
            rw [if_neg (show ¬ paid > g from of_decide_eq_false hb'.1), if_neg (show ¬ paid > o from of_decide_eq_false hb'.2)] at k2
            exact s_retU (eu_tup (vs := [.int 0, .int (o - paid)]) (ea_cons ev_c (ea_cons (ev_if (b := false) (et_isN (v := .int o) (ev_var rfl)) (fun z => nomatch z) fun _ => ev_op (ev_var rfl) (ev_var rfl) rv_I0) ea_nil)) (by show 2 ≤ 100000; decide)) fun q H7 nq e7 hq => k2 q H7 (e15.trans (e6.trans e7)) hq
    · have hneg : ¬ decide (0 < gd x p) = true := by rw [hb]; decide
      rw [if_neg hneg] at k
      rw [if_neg (of_decide_eq_false hb)]
      have e15 := e14.trans e5
      cases ho : LP.other L.pb p with
      | none =>
        rw [ho] at k
        exact q_when (b := true) (et_or (a := true) (b := true) (et_isN (v := .non) (ev_var rfl)) fun z => nomatch z) (fun _ H6 e6 => s_ret ev_c fun H7 e7 => k H7 (e15.trans (e6.trans e7))) fun hb => nomatch hb
      | some o =>
        rw [ho] at k
        refine q_when (b := decide (o < C)) (et_is (et_or (a := false) (et_isN (v := .int o) (ev_var rfl)) fun _ => et_test (ev_op (ev_var rfl) (ev_var rfl) rv_I0)) (Bool.false_or _)) (fun hb H6 e6 => ?_) fun hb H6 e6 => ?_
        · have hc : C > o := of_decide_eq_true hb
          have k2 : RngR Q H (if C > o then none else some (match LP.freeOf L.pb p with | none => 0 | some f => if C - f > 0 then C - f else 0, none)) := k
          rw [if_pos hc] at k2
          exact s_ret ev_c fun H7 e7 => k2 H7 (e15.trans (e6.trans e7))
        · have hc : ¬ C > o := of_decide_eq_false hb
          have k2 : RngR Q H (if C > o then none else some (match LP.freeOf L.pb p with | none => 0 | some f => if C - f > 0 then C - f else 0, none)) := k
          rw [if_neg hc] at k2
          cases hf : LP.freeOf L.pb p with
          | none =>
            rw [hf] at k2
            exact s_retU (eu_tup (vs := [.int 0, .non]) (ea_cons (ev_if (b := true) (et_isN (v := .non) (ev_var rfl)) (fun _ => ev_c) fun z => nomatch z) (ea_cons ev_c ea_nil)) (by decide)) fun q H7 nq e7 hq => k2 q H7 (e15.trans (e6.trans e7)) hq
          | some g =>
            rw [hf] at k2
            exact s_retU (eu_tup (vs := [.int (if C - g > 0 then C - g else 0), .non]) (ea_cons (ev_if (b := false) (et_isN (v := .int g) (ev_var rfl)) (fun z => nomatch z) fun _ => ev_max2 ev_c (ev_op (ev_var rfl) (ev_var rfl) rv_I0)) (ea_cons ev_c ea_nil)) (by show 2 ≤ 100000; decide)) fun q H7 nq e7 hq => k2 q H7 (e15.trans (e6.trans e7)) hq
end
end LW

set_option maxHeartbeats 4000000
namespace LW
open PySem PySem.Spec PyProof.Rows L2 Evl LR RZ
/-! ### the search's objects in the heap -/
def Tk (H H' : Hp) : Prop := ∀ b xs, H b = some (.tup xs) → H' b = some (.tup xs)
theorem Tk.of {H H' : Hp} (e : Ex H H') : Tk H H' := fun b xs h => e b _ h
def Keys (H : Hp) (sw : List NKey) (as : List Addr) : Prop := as.length = sw.length ∧ ∀ (i : Nat) (s : NKey) (a : Addr), sw[i]? = some s → as[i]? = some a → KeyA H s a
theorem Keys.keep {H H' : Hp} {sw : List NKey} {as : List Addr} (k : Keys H sw as) (t : Tk H H') : Keys H' sw as := ⟨k.1, fun i s a h1 h2 => (k.2 i s a h1 h2).keep t⟩
theorem Keys.snoc {H : Hp} {sw : List NKey} {as : List Addr} {s : NKey} {a : Addr} (k : Keys H sw as) (h : KeyA H s a) : Keys H (sw ++ [s]) (as ++ [a]) := by
  refine ⟨by rw [List.length_append, List.length_append, k.1]; rfl, fun i s' a' h1 h2 => ?_⟩
  by_cases hi : i < sw.length
  · rw [List.getElem?_append_left hi] at h1
    rw [List.getElem?_append_left (by rw [k.1]; exact hi)] at h2
    exact k.2 i s' a' h1 h2
  · rw [List.getElem?_append_right (by omega)] at h1
    rw [List.getElem?_append_right (by rw [k.1]; omega)] at h2
    have z1 : i - sw.length < 1 := (List.getElem?_eq_some_iff.mp h1).1
    have e0 : i - sw.length = 0 := by omega
    have e1 : i - as.length = 0 := by rw [k.1]; omega
    rw [e0] at h1
    rw [e1] at h2
    have q1 : s = s' := Option.some.inj h1
    have q2 : a = a' := Option.some.inj h2
    rw [← q1, ← q2]
    exact h
theorem Keys.pop {H : Hp} {sw : List NKey} {as : List Addr} {s : NKey} (k : Keys H (sw ++ [s]) as) : ∃ as' a, as = as' ++ [a] ∧ Keys H sw as' ∧ KeyA H s a := by
  have hl := k.1
  rw [List.length_append] at hl
  have hl' : as.length = sw.length + 1 := hl
  have e := List.take_append_drop sw.length as
  rw [List.drop_eq_getElem_cons (show sw.length < as.length by omega), List.drop_eq_nil_of_le (show as.length ≤ sw.length + 1 by omega)] at e
  refine ⟨as.take sw.length, as[sw.length], e.symm, ⟨by rw [List.length_take]; omega, fun i s' a' h1 h2 => ?_⟩, ?_⟩
  · have hi := (List.getElem?_eq_some_iff.mp h1).1
    rw [List.getElem?_take, if_pos hi] at h2
    exact k.2 i s' a' (by rw [List.getElem?_append_left hi]; exact h1) h2
  · exact k.2 sw.length s _ (by rw [List.getElem?_append_right (Nat.le_refl _), Nat.sub_self]; rfl) (List.getElem?_eq_getElem _)
theorem kIinj : ∀ {a b : List Int}, a.map (Sum.inl : Int → L2.Key) = b.map Sum.inl → a = b
  | [], [], _ => rfl
  | [], _ :: _, e => by simp at e
  | _ :: _, [], e => by simp at e
  | x :: xs, y :: ys, e => by
    rw [List.map_cons, List.map_cons] at e
    injection e with e1 e2
    rw [kIinj e2, Sum.inl.inj e1]
def fk (fd : List (List Int)) : List (List L2.Key × V) := fd.map fun x => (x.map Sum.inl, V.bl true)
theorem putK_fk (fd : List (List Int)) (x : List Int) : putK (fk fd) (x.map Sum.inl) (V.bl true) = fk (LP.putP fd x) := by
  have h1 : ((fk fd).any fun kv => decide (kv.1 = x.map Sum.inl)) = decide (x ∈ fd) := by
    rw [Bool.eq_iff_iff, List.any_eq_true, decide_eq_true_eq]
    constructor
    · rintro ⟨kv, hk, e⟩
      obtain ⟨y, hy, rfl⟩ := List.mem_map.mp hk
      rw [← kIinj (of_decide_eq_true e)]
      exact hy
    · intro h
      exact ⟨_, List.mem_map.mpr ⟨x, h, rfl⟩, decide_eq_true rfl⟩
  unfold putK LP.putP
  rw [h1]
  by_cases h : x ∈ fd
  · rw [if_pos (decide_eq_true h), if_pos h]
    unfold fk
    rw [List.map_map]
    refine List.map_congr_left fun y _ => ?_
    show (if (y.map Sum.inl : List L2.Key) = x.map Sum.inl then ((y.map Sum.inl : List L2.Key), V.bl true) else (y.map Sum.inl, V.bl true)) = _
    split <;> rfl
  · rw [if_neg (by rw [decide_eq_false h]; decide), if_neg h]
    unfold fk
    rw [List.map_append]
    rfl
theorem fk_len (fd : List (List Int)) : (fk fd).length = fd.length := List.length_map ..
structure Hx (P : Program) (w : World) (H1 H : Hp) (dd wl dm : Addr) (fd : List (List Int)) (sw ks : List NKey) : Prop where
  ex : Ex H1 H
  fnd : H dd = some (.dT (fk fd))
  wait : ∃ as : List Addr, H wl = some (.lst (as.map V.ref)) ∧ Keys H sw as
  met : Met P w H dm ks
section
variable {P : Program} {w : World} {H1 H H' : Hp} {dd wl dm : Addr} {fd : List (List Int)} {sw ks : List NKey}
theorem met_at {d : Addr} (m : Met P w H d ks) : ∃ xs, H d = some (MetO P w d xs) := by
  obtain ⟨xs, h, _⟩ := m.ex
  exact ⟨xs, h⟩
theorem Hx.mono (h : Hx P w H1 H dd wl dm fd sw ks) (e : Ex H H') : Hx P w H1 H' dd wl dm fd sw ks := by
  obtain ⟨as, g1, g2⟩ := h.wait
  obtain ⟨xs, hm⟩ := met_at h.met
  exact ⟨h.ex.trans e, e dd _ h.fnd, ⟨as, e wl _ g1, g2.keep (Tk.of e)⟩, h.met.keep (by rw [hm]; exact e dm _ hm) (Tk.of e)⟩
theorem Hx.setW (h : Hx P w H1 H dd wl dm fd sw ks) (n : H1 wl = none) {sw' : List NKey} {as' : List Addr} (k : Keys H sw' as') : Hx P w H1 (upd H wl (.lst (as'.map V.ref))) dd wl dm fd sw' ks := by
  obtain ⟨as, g1, g2⟩ := h.wait
  obtain ⟨xs, hm⟩ := met_at h.met
  have t : Tk H (upd H wl (.lst (as'.map V.ref))) := fun b ys hb => by
    rw [upd_ne (ne_of hb g1 fun z => nomatch z)]
    exact hb
  refine ⟨Ex.mut h.ex n, ?_, ⟨as', upd_same, k.keep t⟩, h.met.keep ?_ t⟩
  · rw [upd_ne (ne_of h.fnd g1 fun z => nomatch z)]
    exact h.fnd
  · rw [upd_ne (ne_of hm g1 fun z => nomatch z)]
theorem Hx.setF (h : Hx P w H1 H dd wl dm fd sw ks) (n : H1 dd = none) (x : List Int) : Hx P w H1 (upd H dd (.dT (putK (fk fd) (x.map Sum.inl) (V.bl true)))) dd wl dm (LP.putP fd x) sw ks := by
  obtain ⟨as, g1, g2⟩ := h.wait
  obtain ⟨xs, hm⟩ := met_at h.met
  have t : Tk H (upd H dd (.dT (putK (fk fd) (x.map Sum.inl) (V.bl true)))) := fun b ys hb => by
    rw [upd_ne (ne_of hb h.fnd fun z => nomatch z)]
    exact hb
  refine ⟨Ex.mut h.ex n, ?_, ⟨as, ?_, g2.keep t⟩, h.met.keep ?_ t⟩
  · rw [upd_same, putK_fk]
  · rw [upd_ne (ne_of g1 h.fnd fun z => nomatch z)]
    exact g1
  · rw [upd_ne (ne_of hm h.fnd fun z => nomatch z)]
theorem Hx.setM (h : Hx P w H1 H dd wl dm fd sw ks) (n : H1 dm = none) {ks' : List NKey} (m : Met P w H' dm ks') (hk : ∀ b, b ≠ dm → H' b = H b) : Hx P w H1 H' dd wl dm fd sw ks' ∧ Tk H H' := by
  obtain ⟨as, g1, g2⟩ := h.wait
  obtain ⟨xs, hm⟩ := met_at h.met
  have t : Tk H H' := fun b ys hb => by
    rw [hk b (ne_of hb hm fun z => nomatch z)]
    exact hb
  refine ⟨⟨fun b o hb => ?_, ?_, ⟨as, ?_, g2.keep t⟩, m⟩, t⟩
  · rw [hk b (fun z => by rw [z, n] at hb; cases hb)]
    exact h.ex b o hb
  · rw [hk dd (ne_of h.fnd hm fun z => nomatch z)]
    exact h.fnd
  · rw [hk wl (ne_of g1 hm fun z => nomatch z)]
    exact g1
end
theorem pushes_len (P : LP.Pb) (e : Nat) (t : List Nat) : ∀ (as : List Nat) (u : List LP.Stt × List LP.Stt), (LP.pushes P e t as u).1.length ≤ u.1.length + as.length ∧ (LP.pushes P e t as u).2.length ≤ u.2.length + as.length
  | [], u => ⟨Nat.le_refl _, Nat.le_refl _⟩
  | a :: r, u => by
    have ih := pushes_len P e t r (LP.pushOne u (LP.mor P e t a))
    show (LP.pushes P e t r (LP.pushOne u (LP.mor P e t a))).1.length ≤ _ ∧ (LP.pushes P e t r (LP.pushOne u (LP.mor P e t a))).2.length ≤ _
    have h1 : (LP.pushOne u (LP.mor P e t a)).1.length ≤ u.1.length + 1 ∧ (LP.pushOne u (LP.mor P e t a)).2.length ≤ u.2.length + 1 := by
      unfold LP.pushOne
      split
      · omega
      · exact ⟨by rw [List.length_append]; exact Nat.le_refl _, by rw [List.length_append]; exact Nat.le_refl _⟩
    rw [List.length_cons]
    omega
theorem all_len (P : LP.Pb) (h : P.n ≤ 7) : (LP.allS P).length ≤ 1024 := by
  unfold LP.allS
  rw [List.length_flatMap]
  have e : (List.map (fun e => ((LP.subsA 0 P.n).map fun t => (e, t)).length) (List.range (P.n + 1))) = List.replicate (P.n + 1) (2 ^ P.n) := by
    apply List.ext_getElem?
    intro i
    rw [List.getElem?_map, List.getElem?_replicate]
    by_cases hi : i < P.n + 1
    · rw [List.getElem?_range hi, if_pos hi]
      show some (((LP.subsA 0 P.n).map fun t => (i, t)).length) = _
      rw [List.length_map, LP.subs_len]
    · rw [List.getElem?_eq_none (by rw [List.length_range]; omega), if_neg hi]
      rfl
  rw [e, List.sum_replicate_nat]
  have h2 : 2 ^ P.n ≤ 2 ^ 7 := Nat.pow_le_pow_right (by decide) h
  exact Nat.mul_le_mul (show P.n + 1 ≤ 8 by omega) h2
end LW

set_option maxHeartbeats 4000000
namespace LW
open PySem PySem.Spec PyProof.Rows L2 Evl LR RZ
section
variable {K : PySem.W.Frag} {σ : L2.St} {H H' : Hp} {ta tb tc te tl : TE} {D : Ends} {tz : TS}
theorem ev_lenDT {p : Addr} {kvs : List (List L2.Key × V)} (h : Ev te σ H (.ref p)) (hp : H p = some (.dT kvs)) : Ev (tCB rLenT (tCons te tNil)) σ H (.int ((kvs.length : Nat) : Int)) :=
  ev_cb (ea_cons h ea_nil) fun H1 e Q q => ⟨p, kvs, rfl, e p _ hp, q H1 (Ex.refl H1)⟩
/-- a tuple, new or not, that the heap holds itself -/
def EvW (te : TE) (σ : L2.St) (H : Hp) (xs : List V) : Prop := ∀ H1, Ex H H1 → ∀ Q : VK, (∀ p H2, Ex H1 H2 → H2 p = some (.tup xs) → Q (.ref p) H2) → te σ H1 Q
theorem q_asgW {i : Nat} {xs : List V} (h : EvW te σ H xs) (k : ∀ p H1, Ex H H1 → H1 p = some (.tup xs) → tz D (σ.set i (some (.ref p))) H1) : tSeq (tAsg te (gName i)) tz D σ H := h H (Ex.refl H) _ fun p H1 e hp => k p H1 e hp
theorem isKeys_mem {H : Hp} {kvs : List (List L2.Key × V)} {bs : List Addr} (h : IsKeys H kvs bs) : bs.length = kvs.length ∧ (∀ b ∈ bs, ∃ kv ∈ kvs, H b = some (.tup (kv.1.map kV))) ∧ ∀ kv ∈ kvs, ∃ b ∈ bs, H b = some (.tup (kv.1.map kV)) := by
  unfold IsKeys at h
  induction h with
  | nil => exact ⟨rfl, fun b hb => (nomatch hb), fun kv hk => (nomatch hk)⟩
  | @cons kv b kvs bs h1 _ ih =>
    obtain ⟨g1, g2, g3⟩ := ih
    refine ⟨by rw [List.length_cons, List.length_cons, g1], fun c hc => ?_, fun kv' hk => ?_⟩
    · rcases List.mem_cons.mp hc with rfl | hc
      · exact ⟨kv, List.mem_cons_self, h1⟩
      · obtain ⟨kv', h2, h3⟩ := g2 c hc
        exact ⟨kv', List.mem_cons_of_mem _ h2, h3⟩
    · rcases List.mem_cons.mp hk with rfl | hk
      · exact ⟨b, List.mem_cons_self, h1⟩
      · obtain ⟨c, h2, h3⟩ := g3 kv' hk
        exact ⟨c, List.mem_cons_of_mem _ h2, h3⟩
end
theorem Keys.mem {H : Hp} {sw : List NKey} {as : List Addr} (k : Keys H sw as) {b : Addr} (h : b ∈ as) : ∃ s, KeyA H s b := by
  obtain ⟨i, hi⟩ := List.getElem?_of_mem h
  have hl : i < sw.length := by
    rw [← k.1]
    exact (List.getElem?_eq_some_iff.mp hi).1
  exact ⟨_, k.2 i _ b (List.getElem?_eq_getElem hl) hi⟩
theorem snoc_ex {α : Type} : ∀ {l : List α}, l ≠ [] → ∃ l' x, l = l' ++ [x]
  | [], h => absurd rfl h
  | [x], _ => ⟨[], x, rfl⟩
  | x :: y :: r, _ => by
    obtain ⟨l', z, e⟩ := snoc_ex (l := y :: r) (by simp)
    exact ⟨x :: l', z, by rw [e]; rfl⟩
theorem refs_inj : ∀ {a b : List Addr}, a.map V.ref = b.map V.ref → a = b
  | [], [], _ => rfl
  | [], _ :: _, e => by simp at e
  | _ :: _, [], e => by simp at e
  | x :: xs, y :: ys, e => by
    rw [List.map_cons, List.map_cons] at e
    injection e with e1 e2
    rw [refs_inj e2, V.ref.inj e1]
theorem pos_seg (L : Pl) (i j : Nat) : LP.pos L.pb i j = decide (0 < LP.seg (gd L.d) i j) := rfl
theorem plan_bd {L : Pl} (ok : L.Ok) {t : List Nat} (h : LP.IsOpt L.pb t) : TS.Bd 12001 (LP.planL L.pb t) := by
  intro x hx
  unfold LP.planL at hx
  obtain ⟨i, hi, rfl⟩ := List.mem_map.mp hx
  have hi' : i < L.pb.n := List.mem_range.mp hi
  obtain ⟨_, hsum, _, hpos⟩ := LP.plan_ok ok.pb h
  have h0 := (hpos i hi').2
  rw [LP.gI_plan L.pb t hi'] at h0
  refine ⟨h0, ?_⟩
  have n12 := ok.n12
  -- each amount is at most the sum of all, and this the sum of the demands
  have le : ∀ (f : Nat → Int) (n : Nat), (∀ i, i < n → 0 ≤ f i) → ∀ j, j < n → f j ≤ LP.sumF f 0 n := by
    intro f n
    induction n with
    | zero => intro _ j hj; omega
    | succ n ih =>
      intro hf j hj
      rw [LP.sumF_succ, Nat.zero_add]
      by_cases hjn : j = n
      · subst hjn
        have : 0 ≤ LP.sumF f 0 j := LP.sumF_nonneg fun i _ hi => hf i (by omega)
        omega
      · have := ih (fun i hi => hf i (by omega)) j (by omega)
        have := hf n (by omega)
        omega
  have bd : ∀ n : Nat, LP.sumF L.pb.d 0 n ≤ 999 * (n : Int) := by
    intro n
    induction n with
    | zero => exact Int.le_refl _
    | succ n ih =>
      rw [LP.sumF_succ, Nat.zero_add]
      have h1 : L.pb.d n ≤ 999 := (gd_in ok.ed n).2
      omega
  have h1 := le (LP.gI (LP.planL L.pb t)) L.pb.n (fun j hj => (hpos j hj).2) i hi'
  rw [hsum, LP.gI_plan L.pb t hi'] at h1
  have h2 := bd L.pb.n
  have h3 : L.pb.n = L.n := rfl
  have h4 : (L.pb.n : Int) ≤ 12 := by rw [h3]; omega
  omega
section
variable {P : Program} {w : World} {K : PySem.W.Frag} {mg : Str → Option Value} {base : Heap}
/-! ### plans_to -/
abbrev sPls : Stmt := top 25
abbrev nPls : List Str := ["problem", "most", "last", "many", "found", "waiting", "met", "end", "told", "start", "more"]
theorem scPls : FnScope nPls ["problem", "most"] (defScope sPls) := ⟨rfl, rfl, rfl, by decide +kernel, rfl, by decide +kernel, by decide +kernel⟩
/-- the list of the least plans -/
def Plans (H : Hp) (p : Addr) (L : Pl) : Prop := ∃ bs : List Addr, H p = some (.lst (bs.map V.ref)) ∧ bs.length ≤ 128 ∧ (∀ b ∈ bs, ∃ t, LP.IsOpt L.pb t ∧ H b = some (.tup (iL (LP.planL L.pb t)))) ∧ ∀ t, LP.IsOpt L.pb t → ∃ b ∈ bs, H b = some (.tup (iL (LP.planL L.pb t)))
def spPls (K : PySem.W.Frag) : Sp := fun vs H Q _ => ∃ a L, vs = [.ref a, .int 500] ∧ At K H a L ∧ L.Ok ∧ L.n ≤ 7 ∧ ∀ p H', H p = none → Ex H H' → Plans H' p L → Q (.ref p) H'
theorem le64 {n : Nat} (h : n + 64 < cLine) : n + 9 < cLine := Nat.lt_of_le_of_lt (Nat.add_le_add_left (by decide) _) h
theorem le65 {n : Nat} (h : n + 64 < cLine) : n + 1 < cLine := Nat.lt_of_le_of_lt (Nat.add_le_add_left (by decide) _) h
theorem ok_pls (D : DefAt K mg "plans_to" sPls) (T : Bts mg) (GP : Gd P w K mg base 1 "periods_of" ["problem"] (spPer K)) (GF : Gd P w K mg base 2 "filled" ["problem", "told"] (spFil K)) (GL : Gd P w K mg base 4 "last_starts_in" ["problem"] (spLst K)) :
    Gd P w K mg base 5 "plans_to" ["problem", "most"] (spPls K) := by
  refine gd_of D scPls (fun vs H Q E h => ?_) (fun _ _ _ _ _ _ us hl => match us, hl with | [_, _], _ => rfl) fun f cdv A outer s H vs Q E hr h => ?_
  · obtain ⟨a, L, rfl, _⟩ := h
    rfl
  · obtain ⟨a, L, rfl, hp, ok, n7, k⟩ := h
    have hr1 : Room 1 _ := hr.mono (by decide)
    have hr2 : Room 2 _ := hr.mono (by decide)
    refine ⟨_, pss_cons (ps_par (i := 2) (j := 3) rfl scPls.nd rfl rfl (by decide) rfl rfl (pa_cons (pe_go GL hr (by rfl) (pa_cons (pv 0) pa_nil)) (pa_cons (pe_go GP hr1 (by rfl) (pa_cons (pv 0) pa_nil)) pa_nil)) (by rfl))
      (pss_cons (ps_par3 (i := 4) (j := 5) (l := 6) rfl scPls.nd rfl rfl rfl (by decide) (by decide) (by decide) rfl rfl rfl
        (pa_cons pe_dnewT (pa_cons (pe_lst (pa_cons (pe_tup (pa_cons (pv 3) (pa_cons (pe_tup pa_nil) pa_nil))) pa_nil)) (pa_cons pe_dnewM pa_nil))) (by rfl))
      (pss_cons (ps_while PassesOwn.never (pw_and (pt_cmpR (op_neD hr.units) (pv 5) (pe_lst pa_nil) (nomark _)) (pw_and1 (pt_cmpR op_le (pe_callB call_len_dT (by rfl) T.len PySem.boot_len (pa_cons (pv 4) pa_nil)) (pv 1) (nomark _)))).pt
        (pss_cons (ps_asg (pe_bm0 PySem.F.plainAttrs_list PySem.F.slot_list_pop PySem.F.type_list_pop mt_pop (pv 5)) (pg_tup rfl (pgs_cons (pg_name (i := 7) scPls.nd rfl (Or.inl rfl)) (pgs_cons (pg_name (i := 8) scPls.nd rfl (Or.inl rfl)) pgs_nil))))
        (pss_one (ps_if (pt_cmpR op_eq (pv 7) pe_int (nomark _))
          (pss_one (ps_dput (le65 hr.units) (pv 4) (pe_go GF hr2 (by rfl) (pa_cons (pv 0) (pa_cons (pv 8) pa_nil))) pe_bl (by rfl)))
          (pss_one (ps_for PassesOwn.never rfl (pi_list (pe_ix ix_list (pv 2) (pe_op op_sub (pv 7) pe_int) (fun _ _ => rfl))) (pg_name (i := 9) scPls.nd rfl (Or.inl rfl))
            (pss_cons (ps_set (i := 10) scPls.nd rfl (Or.inl rfl) (pe_ifExp (pt_cmpR op_gt (pe_callB (cr_sumT rfl) (by rfl) T.sum (by decide +kernel) (pa_cons (pe_slice sl_tupA (pe_ix ix_tup (pv 0) pe_int (fun _ _ => rfl)) (po_some (pv 9)) (po_some (pv 7))) pa_nil)) pe_int (nomark _))
                (pe_tup (pa_cons (pv 9) (StX.pa_star (pv 8) pa_nil))) (pv 8)))
            (pss_one (ps_if (pt_cmpR (op_notInM (le64 hr.units)) (pe_tup (pa_cons (pv 9) (pa_cons (pv 10) pa_nil))) (pv 6) (by with_unfolding_all rfl))
              (pss_cons (ps_asg pe_bl (pg_sub (pv 6) (pe_tup (pa_cons (pv 9) (pa_cons (pv 10) pa_nil))) (set_met (le64 hr.units))))
              (pss_one (ps_expr (pe_bm PySem.F.plainAttrs_list PySem.F.slot_list_append PySem.F.type_list_append mt_append (pv 5) (pa_cons (pe_tup (pa_cons (pv 9) (pa_cons (pv 10) pa_nil))) pa_nil)))))
              pss_nil)))))))))
      (pss_one (ps_ret (pe_callB (cr_sortedDT rfl) (by rfl) T.sorted (by decide +kernel) (pa_cons (pv 4) pa_nil)))))), ?_⟩
    have n12 := ok.n12
    refine ⟨_, rfl, a, L, rfl, hp, ok, fun lp H1 np e1 hL => ⟨_, rfl, a, L, rfl, hp.mono e1, fun H2 e2 => ⟨_, _, rfl, ?_⟩⟩⟩
    have hL2 := hL.mono e2
    have e12 := e1.trans e2
    have hp2 := hp.mono e12
    refine fun dd ndd => ⟨_, rfl, Nat.zero_le _, fun q0 nq0 => ⟨by show 2 ≤ sizeLine; decide, fun s0 ns0 => ⟨by show 1 ≤ sizeLine; decide, fun wl nwl dm H7 ndm hk7 hm7 => ⟨_, _, _, rfl, ?_⟩⟩⟩⟩
    have x1 : Ex H2 (upd H2 dd (.dT [])) := Ex.new ndd
    have x2 := Ex.new (o := .tup []) nq0
    have x3 := Ex.new (o := .tup [.int (L.n : Nat), .ref q0]) ns0
    have x4 := Ex.new (o := .lst [.ref s0]) nwl
    have x5 : Ex (upd (upd (upd (upd H2 dd (.dT [])) q0 (.tup [])) s0 (.tup [.int (L.n : Nat), .ref q0])) wl (.lst [.ref s0])) H7 := fun b o hb => by
      rw [hk7 b (fun z => by rw [z, ndm] at hb; cases hb)]
      exact hb
    have x04 := ((x1.trans x2).trans x3).trans x4
    have nwl2 : H2 wl = none := fresh_back ((x1.trans x2).trans x3) nwl
    have ndm2 : H2 dm = none := fresh_back x04 ndm
    have X0 : Hx P w H2 H7 dd wl dm [] [(L.n, [])] [] := by
      refine ⟨x04.trans x5, (((x2.trans x3).trans x4).trans x5) dd _ upd_same, ⟨[s0], x5 wl _ upd_same, rfl, fun i s b h1 h2 => ?_⟩, hm7⟩
      have hi : i < 1 := (List.getElem?_eq_some_iff.mp h1).1
      have e0 : i = 0 := by omega
      subst e0
      have q1 : (L.n, []) = s := Option.some.inj h1
      have q2 : s0 = b := Option.some.inj h2
      rw [← q1, ← q2]
      exact ⟨q0, (x4.trans x5) s0 _ upd_same, ((x3.trans x4).trans x5) q0 _ upd_same⟩
    have hall := all_len L.pb (show L.pb.n ≤ 7 from n7)
    clear x1 x2 x3 x4 x5 x04 hk7
    refine q_while (fun m σ' H' => ∃ v7 v8 v9 v10 fd sw ks, σ' = [some (.ref a), some (.int 500), some (.ref lp), some (.int (L.n : Nat)), some (.ref dd), some (.ref wl), some (.ref dm), v7, v8, v9, v10] ∧ Hx P w H2 H' dd wl dm fd sw ks ∧ LP.DInv L.pb sw ks fd ∧ LP.meas L.pb sw ks = m ∧ m ≤ 2100) (LP.meas L.pb [(L.n, [])] [])
      ⟨none, none, none, none, [], [(L.n, [])], [], rfl, X0, LP.dinv_init L.pb, rfl, by
        unfold LP.meas
        show 2 * _ + 1 ≤ 2100
        omega⟩ fun m σ' H' hW => ?_
    obtain ⟨v7, v8, v9, v10, fd, sw, ks, rfl, X, I, hm, hm2⟩ := hW
    obtain ⟨as, hw, hk⟩ := X.wait
    have hf := I.found_len
    have h128 : 2 ^ L.pb.n ≤ 2 ^ 7 := Nat.pow_le_pow_right (by decide) n7
    refine ⟨!(as.map V.ref).isEmpty && decide ((((fk fd).length : Nat) : Int) ≤ 500), et_and (et_test (ev_neNil (n := 2) (ev_var rfl) (sq_of hw) (el_lst ea_nil (by decide)) (by decide) fun Ha ea x hx => ?_)) fun _ => et_test (ev_op (ev_lenDT (ev_var rfl) X.fnd) (ev_var rfl) rv_I0), fun hb H3 e3 => ?_, fun hb H3 e3 => ?_⟩
    · obtain ⟨b, hb, rfl⟩ := List.mem_map.mp hx
      obtain ⟨s, q, h1, h2⟩ := hk.mem hb
      refine dd_tup (n := 1) (st_of (ea b _ h1)) fun y hy => ?_
      simp only [List.mem_cons, List.not_mem_nil, or_false] at hy
      rcases hy with rfl | rfl
      · exact dd_int _ _
      · refine dd_tup (n := 0) (st_of (ea q _ h2)) fun y hy => ?_
        unfold nums at hy
        obtain ⟨i, _, rfl⟩ := List.mem_map.mp hy
        exact dd_int _ _
    · have hne : sw ≠ [] := fun z => by
        have h1 := hk.1
        rw [z] at h1
        have h2 : as = [] := List.length_eq_zero_iff.mp h1
        rw [h2] at hb
        cases hb
      obtain ⟨sw', s, rfl⟩ := snoc_ex hne
      obtain ⟨e, t⟩ := s
      obtain ⟨as', sa, rfl, hk', q, hsa, hq⟩ := hk.pop
      refine ⟨fun σ2 H2' => ∃ m', m' < m ∧ _, fun _ _ h => h, ?_⟩
      have X3 := X.mono e3
      have hw3 : H3 wl = some (.lst (as'.map V.ref ++ [V.ref sa])) := by
        have := e3 wl _ hw
        rw [List.map_append] at this
        exact this
      have hdl : (as'.map V.ref ++ [V.ref sa]).dropLast = as'.map V.ref := by simp
      have X4 : Hx P w H2 (upd H3 wl (.lst (as'.map V.ref))) dd wl dm fd sw' ks := X3.setW nwl2 (hk'.keep (Tk.of e3))
      have tk4 : Tk H3 (upd H3 wl (.lst (as'.map V.ref))) := fun b ys hb => by
        rw [upd_ne (ne_of hb hw3 fun z => nomatch z)]
        exact hb
      have hq4 := tk4 q _ (e3 q _ hq)
      have hsa4 := tk4 sa _ (e3 sa _ hsa)
      have hos := I.osw _ (List.mem_append_right _ (List.mem_singleton.mpr rfl))
      obtain ⟨hasc, hbd⟩ := LP.os_asc hos
      have hen : e ≤ L.n := hos.1
      have htl : t.length ≤ L.n := asc_len hasc hbd
      have hswl : sw'.length ≤ 2100 := by
        have : LP.meas L.pb (sw' ++ [(e, t)]) ks ≤ 2100 := by omega
        unfold LP.meas at this
        rw [List.length_append] at this
        omega
      have hksl : ks.length ≤ 1024 := Nat.le_trans (LP.len_le I.nd fun x hx => LP.os_all (I.ock x hx)) hall
      refine ⟨_, rfl, Or.inl ⟨rfl, _, sq_of hw3⟩, wl, _, .ref sa, rfl, rfl, hw3, by simp, ?_⟩
      rw [hdl]
      generalize upd H3 wl (.lst (as'.map V.ref)) = H4 at X4 hq4 hsa4
      refine ⟨sa, _, rfl, st_of hsa4, rfl, _, _, rfl, _, _, rfl, rfl, ?_⟩
      refine s_if (b := decide (e = 0)) (et_is (et_test (ev_op (ev_var rfl) ev_c (rv_eq rfl))) (decide_eq_decide.mpr ⟨fun z => by have := V.int.inj z; have : ((e : Nat) : Int) = 0 := this; omega, fun z => by rw [z]; rfl⟩)) (fun hb H5 e5 => ?_) fun hb H5 e5 => ?_
      · have he := of_decide_eq_true hb
        subst he
        have X5 := X4.mono e5
        refine ⟨_, rfl, _, rfl, _, rfl, a, q, L, t, rfl, hp2.mono X5.ex, ok, st_of (e5 q _ hq4), hasc, hbd, fun fp H6 nfp e6 hfp => ⟨dd, _, rfl, DPut.t (k := (LP.planL L.pb t).map Sum.inl) (X5.mono e6).fnd (by rw [kV_ints]; exact hfp) (by rw [fk_len]; exact sz_lt (by omega)), ?_⟩⟩
        obtain ⟨I2, lt⟩ := I.zero
        exact ⟨_, by rw [← hm]; exact lt, _, _, v9, v10, _, _, _, rfl, (X5.mono e6).setF ndd _, I2, rfl, by omega⟩
      · have he := of_decide_eq_false hb
        have X5 := X4.mono e5
        have hL5 := hL2.mono X5.ex
        obtain ⟨las, l1, l2, l3⟩ := hL5
        obtain ⟨lb, m1, m2, m3⟩ := l3 (e - 1) (by omega)
        rw [show e - 1 + 1 = e by omega] at m2
        -- the list itself is as old as the base
        obtain ⟨las', l1', l2', l3'⟩ := hL2
        have hlas : las' = las := by
          have := X5.ex lp _ l1'
          rw [l1] at this
          have h := HO.lst.inj (Option.some.inj this)
          exact (refs_inj h).symm
        subst hlas
        obtain ⟨lb', m1', m2', _⟩ := l3' (e - 1) (by omega)
        rw [m1] at m1'
        have hlb : lb = lb' := Option.some.inj m1'
        subst hlb
        rw [show e - 1 + 1 = e by omega] at m2'
        generalize hlo : LP.lastOf L.pb (LP.stg L.pb L.n) e = lo at m2 m2'
        have hlol : lo.length ≤ 12 := by
          rw [← hlo]
          unfold LP.lastOf
          have := List.length_filter_le (fun a => decide ((LP.stg L.pb L.n).getD a 0 + LP.lot L.pb a e = (LP.stg L.pb L.n).getD e 0)) (List.range e)
          rw [List.length_range] at this
          omega
        refine s_forLn (a := lb) (xs := nums lo) (ev_ixL (i := ((e - 1 : Nat) : Int)) (ev_var rfl) (sq_of l1) (ev_is (ev_op (ev_var rfl) ev_c rv_I0) (congrArg V.int (by omega))) (atI_nat (by rw [List.getElem?_map, m1]; rfl))) (sq_of m2)
          (fun i σ' H' => ∃ v9 v10, σ' = [some (.ref a), some (.int 500), some (.ref lp), some (.int (L.n : Nat)), some (.ref dd), some (.ref wl), some (.ref dm), some (.int (e : Nat)), some (.ref q), v9, v10] ∧ Hx P w H2 H' dd wl dm fd (LP.pushes L.pb e t (lo.take i) (sw', ks)).1 (LP.pushes L.pb e t (lo.take i) (sw', ks)).2 ∧ H' q = some (.tup (nums t)))
          (fun H6 e6 => ⟨v9, v10, rfl, by rw [List.take_zero]; exact X5.mono e6, (e5.trans e6) q _ hq4⟩) (fun i σ' H' _ hP => ?_) (fun i x σ' H' hx hP => ?_) fun σ' H' hP => ?_
        · obtain ⟨_, _, _, Xi, _⟩ := hP
          exact sq_of (Xi.ex lb _ m2')
        · obtain ⟨v9, v10, rfl, Xi, hqi⟩ := hP
          obtain ⟨c, hc, rfl⟩ := of_nums hx
          have hce : c < e := by
            have hmem := List.mem_of_getElem? hc
            rw [← hlo] at hmem
            exact (LP.mem_last.mp hmem).1
          have hsn := LP.pushes_snoc L.pb e t hc (sw', ks)
          have hpl := pushes_len L.pb e t (lo.take i) (sw', ks)
          have htk : (lo.take i).length ≤ 12 := by
            rw [List.length_take]
            omega
          have hz1 : (sw', ks).1.length = sw'.length := rfl
          have hz2 : (sw', ks).2.length = ks.length := rfl
          generalize LP.pushes L.pb e t (lo.take i) (sw', ks) = u at Xi hsn hpl
          have hpi := hp2.mono Xi.ex
          refine q_asgW (xs := nums (LP.mor L.pb e t c).2) (fun H6 e6 Q' q' => ?_) fun mq H6 e6 hmq => ?_
          · refine (et_test (ev_op (ev_seg (part0 (ev_var rfl) (hpi.mono e6)) (ev_var rfl) (ev_var rfl) (Nat.le_of_lt hce) hen) ev_c rv_I0)) H6 (Ex.refl H6) _ fun H8 e8 => ?_
            unfold LP.mor at q'
            rw [pos_seg] at q'
            by_cases hpos : 0 < LP.seg (gd L.d) c e
            · rw [if_pos (decide_eq_true hpos)]
              rw [if_pos (decide_eq_true hpos)] at q'
              refine ⟨_, rfl, _, rfl, q, nums t, rfl, .inl (st_of ((e6.trans e8) q _ hqi)), ?_, fun np hn => q' np _ (e8.trans (Ex.new hn)) ?_⟩
              · rw [List.length_cons, List.length_append, nums_len]
                exact sz_of (by show t.length + 0 + 1 ≤ 100000; omega)
              · rw [upd_same, List.append_nil]
                rfl
            · rw [if_neg (by rw [decide_eq_false hpos]; decide)]
              rw [if_neg (by rw [decide_eq_false hpos]; decide)] at q'
              exact ⟨_, rfl, q' q H8 e8 ((e6.trans e8) q _ hqi)⟩
          · have X6 := Xi.mono e6
            refine s_when (b := !decide (LP.mor L.pb e t c ∈ u.2)) (fun Ha ea Q' q' => ⟨_, rfl, _, rfl, by show 2 ≤ sizeLine; decide, fun tp ntp => ⟨_, rfl, dm, u.2, tp, LP.mor L.pb e t c, rfl, rfl, ⟨mq, upd_same, (ea.trans (Ex.new ntp)) mq _ hmq⟩, (X6.mono (ea.trans (Ex.new ntp))).met, _, rfl, q' _ (Ex.new ntp)⟩⟩) (fun hb2 H8 e8 => ?_) fun hb2 H8 e8 => ?_
            · have hni : LP.mor L.pb e t c ∉ u.2 := by
                intro z
                rw [decide_eq_true z] at hb2
                cases hb2
              have hp1 : LP.pushOne u (LP.mor L.pb e t c) = (u.1 ++ [LP.mor L.pb e t c], u.2 ++ [LP.mor L.pb e t c]) := if_neg hni
              rw [hp1] at hsn
              have X8 := X6.mono e8
              refine ⟨_, rfl, _, rfl, _, rfl, by show 2 ≤ sizeLine; decide, fun tp ntp => ⟨dm, u.2, tp, LP.mor L.pb e t c, rfl, rfl, ⟨mq, upd_same, (e8.trans (Ex.new ntp)) mq _ hmq⟩, (X8.mono (Ex.new ntp)).met, hni, sz_lt (Nat.lt_of_le_of_lt hpl.2 (by omega)), fun H9 m9 hk9 => ?_⟩⟩
              obtain ⟨X9, tk9⟩ := (X8.mono (Ex.new ntp)).setM ndm2 m9 hk9
              obtain ⟨as9, hw9, hk9'⟩ := X9.wait
              refine s_appU hw9 (ev_var rfl) (eu_tup (vs := [.int (c : Nat), .ref mq]) (ea_cons (ev_var rfl) (ea_cons (ev_var rfl) ea_nil)) (by show 2 ≤ 100000; decide)) ?_ fun tp2 H10 n10 e10 h10 => ?_
              · rw [List.length_map, hk9'.1]
                exact Nat.lt_of_le_of_lt hpl.1 (by omega)
              · have X10 := X9.mono e10
                have hmq9 := tk9 mq _ ((e8.trans (Ex.new ntp)) mq _ hmq)
                have hq9 := tk9 q _ (((e6.trans e8).trans (Ex.new ntp)) q _ hqi)
                have hk10 := (hk9'.keep (Tk.of e10)).snoc (s := LP.mor L.pb e t c) (a := tp2) ⟨mq, h10, e10 mq _ hmq9⟩
                have X11 := X10.setW nwl2 hk10
                rw [List.map_append] at X11
                refine ⟨some (.int (c : Nat)), some (.ref mq), rfl, ?_, ?_⟩
                · rw [hsn]
                  exact X11
                · obtain ⟨as10, hw10, _⟩ := X10.wait
                  rw [upd_ne (ne_of (e10 q _ hq9) hw10 fun z => nomatch z)]
                  exact e10 q _ hq9
            · have hin : LP.mor L.pb e t c ∈ u.2 := by
                by_cases z : LP.mor L.pb e t c ∈ u.2
                · exact z
                · rw [decide_eq_false z] at hb2
                  cases hb2
              have hp1 : LP.pushOne u (LP.mor L.pb e t c) = u := if_pos hin
              rw [hp1] at hsn
              refine ⟨some (.int (c : Nat)), some (.ref mq), rfl, ?_, (e6.trans e8) q _ hqi⟩
              rw [hsn]
              exact X6.mono e8
        · obtain ⟨v9, v10, rfl, Xi, hqi⟩ := hP
          rw [nums_len, List.take_length] at Xi
          obtain ⟨I2, lt⟩ := I.more he
          rw [show LP.stg L.pb L.pb.n = LP.stg L.pb L.n from rfl, hlo] at I2 lt
          exact ⟨_, by rw [← hm]; exact lt, _, _, v9, v10, _, _, _, rfl, Xi, I2, rfl, by omega⟩
    · have hnil : sw = [] := by
        have hb' : (!(as.map V.ref).isEmpty && decide ((((fk fd).length : Nat) : Int) ≤ 500)) = false := hb
        rw [decide_eq_true (by rw [fk_len]; omega), Bool.and_true] at hb'
        have hl := hk.1
        cases as with
        | nil => exact List.length_eq_zero_iff.mp hl.symm
        | cons x r => cases hb'
      subst hnil
      have X3 := X.mono e3
      refine ⟨_, rfl, dd, fk fd, L.n, 12001, rfl, X3.fnd, ok.n1, fun kv hkv => ?_, fun ks2 bs p hks hperm np3 => k p _ (fresh_back (e12.trans X3.ex) np3) ((e12.trans X3.ex).trans (Ex.new np3)) ?_⟩
      · obtain ⟨x, hx, rfl⟩ := List.mem_map.mp hkv
        obtain ⟨t, ht, rfl⟩ := I.ofd x hx
        exact ⟨_, rfl, LP.planL_len _ _, plan_bd ok ht⟩
      · obtain ⟨k1, k2, k3⟩ := isKeys_mem hks
        refine ⟨bs, upd_same, ?_, fun b hb => ?_, fun t ht => ?_⟩
        · rw [hperm.length_eq, k1, fk_len]
          omega
        · obtain ⟨kv, g1, g2⟩ := k2 b (hperm.mem_iff.mp hb)
          obtain ⟨x, hx, rfl⟩ := List.mem_map.mp g1
          obtain ⟨t, ht, rfl⟩ := I.ofd x hx
          refine ⟨t, ht, ?_⟩
          rw [kV_ints] at g2
          exact Ex.new np3 b _ g2
        · have hx := I.done ht
          obtain ⟨b, g1, g2⟩ := k3 _ (List.mem_map.mpr ⟨_, hx, rfl⟩)
          refine ⟨b, hperm.mem_iff.mpr g1, ?_⟩
          rw [kV_ints] at g2
          exact Ex.new np3 b _ g2
end
end LW

set_option maxHeartbeats 4000000
namespace LW
open PySem PySem.Spec PyProof.Rows L2 Evl LR RZ
theorem ExB.refl (p : Addr) (H : Hp) : ExB p H H := fun _ _ _ h => h
theorem ExB.trans {p : Addr} {A B C : Hp} (a : ExB p A B) (b : ExB p B C) : ExB p A C := fun x o hx h => b x o hx (a x o hx h)
theorem Ex.b {p : Addr} {A B : Hp} (a : Ex A B) : ExB p A B := fun x o _ h => a x o h
theorem ExB.mut {p q : Addr} {A B : Hp} {o : HO} (a : ExB p A B) (h : A q = none) : ExB p A (L2.upd B q o) := fun x u hx hu => by
  rw [upd_ne (fun z => by rw [z, h] at hu; cases hu)]
  exact a x u hx hu
theorem exb_l {K : PySem.W.Frag} {p q : Addr} {H H' : Hp} {xs : List V} (e : ExB p H H') (hq : q ≠ p ∨ ∀ H, SqL K H q xs) (h : SqL K H q xs) : SqL K H' q xs := by
  rcases hq with hq | hq
  · rcases h with (h | ⟨o, h⟩) | h
    · exact .inl (.inl (e q _ hq h))
    · exact .inl (.inr ⟨o, e q _ hq h⟩)
    · exact .inr h
  · exact hq H'
/-- the row that the law draws from -/
structure RowOk (K : PySem.W.Frag) (H : Hp) (r sc : Addr) (ns : List Int) : Prop where
  ex : ∃ (i : Nat) (j k : Int), H r = some (.lst [.ref sc, .int (i : Nat), .int j, .int k])
  scr : SqL K H sc (iL ns)
  ne : sc ≠ r ∨ ∀ H, SqL K H sc (iL ns)
theorem RowOk.mono {K : PySem.W.Frag} {H H' : Hp} {r sc : Addr} {ns : List Int} (h : RowOk K H r sc ns) (e : Ex H H') : RowOk K H' r sc ns := by
  obtain ⟨i, j, k, h1⟩ := h.ex
  exact ⟨⟨i, j, k, e r _ h1⟩, ex_l e h.scr, h.ne⟩
section
variable {P : Program} {w : World} {K : PySem.W.Frag} {mg : Str → Option Value} {base : Heap}
/-! ### least_plans -/
abbrev sLpl : Stmt := top 26
abbrev nLpl : List Str := ["problem", "found"]
theorem scLpl : FnScope nLpl ["problem"] (defScope sLpl) := ⟨rfl, rfl, rfl, by decide +kernel, rfl, by decide +kernel, by decide +kernel⟩
def spLpl (K : PySem.W.Frag) : Sp := fun vs H Q _ => ∃ a L, vs = [.ref a] ∧ At K H a L ∧ L.Ok ∧ L.n ≤ 7 ∧ ∀ p H', H p = none → Ex H H' → Plans H' p L → Q (.ref p) H'
theorem Plans.mono {H H' : Hp} {p : Addr} {L : Pl} (e : Ex H H') (h : Plans H p L) : Plans H' p L := by
  obtain ⟨bs, h1, h2, h3, h4⟩ := h
  refine ⟨bs, e p _ h1, h2, fun b hb => ?_, fun t ht => ?_⟩
  · obtain ⟨t, g1, g2⟩ := h3 b hb
    exact ⟨t, g1, e b _ g2⟩
  · obtain ⟨b, g1, g2⟩ := h4 t ht
    exact ⟨b, g1, e b _ g2⟩
theorem ok_lpl (D : DefAt K mg "least_plans" sLpl) (T : Bts mg) (GN : Gd P w K mg base 3 "need_problem" ["value"] (spNpr K)) (GP : Gd P w K mg base 5 "plans_to" ["problem", "most"] (spPls K)) : Gd P w K mg base 6 "least_plans" ["problem"] (spLpl K) := by
  refine gd_of D scLpl (fun vs H Q E h => ?_) (fun _ _ _ _ _ _ us hl => match us, hl with | [_], _ => rfl) fun f cdv A outer s H vs Q E hr h => ?_
  · obtain ⟨a, L, rfl, _⟩ := h
    rfl
  · obtain ⟨a, L, rfl, hp, ok, n7, k⟩ := h
    have hr3 : Room 3 _ := hr.mono (by decide)
    refine ⟨_, pss_cons (ps_expr (pe_go GN hr3 (by rfl) (pa_cons (pv 0) pa_nil)))
      (pss_cons (ps_set (i := 1) scLpl.nd rfl (Or.inl rfl) (pe_go GP hr (by rfl) (pa_cons (pv 0) (pa_cons (pe_gi (by rfl) T.ml) pa_nil))))
      (pss_cons (ps_if (pt_cmpR op_gt (pe_callB call_len_seq (by rfl) T.len PySem.boot_len (pa_cons (pv 1) pa_nil)) (pe_gi (by rfl) T.ml) (nomark _)) (pss_one ps_never) pss_nil)
      (pss_one (ps_ret (pv 1))))), ?_⟩
    refine q_drop (ev_npr (ea_cons (ev_var rfl) ea_nil) hp ok) fun H1 e1 => ?_
    refine ⟨_, rfl, a, L, rfl, hp.mono e1, ok, n7, fun p H2 np e2 hpl => ?_⟩
    obtain ⟨bs, h1, h2, _⟩ := id hpl
    refine q_when (b := false) (et_is (et_test (ev_op (ev_len (ev_var rfl) (sq_of h1)) ev_c rv_I0)) ?_) (fun hb => nomatch hb) fun _ H3 e3 => s_ret (ev_var rfl) fun H4 e4 => k p H4 (fresh_back e1 np) (e1.trans (e2.trans (e3.trans e4))) (hpl.mono (e3.trans e4))
    rw [List.length_map]
    exact decide_eq_false (by omega)
/-! ### _law_taken -/
abbrev sTk : Stmt := top 36
abbrev nTk : List Str := ["_law_row", "_law_many", "_law_found", "_law_cell"]
theorem scTk : FnScope nTk ["_law_row", "_law_many"] (defScope sTk) := ⟨rfl, rfl, rfl, by decide +kernel, rfl, by decide +kernel, by decide +kernel⟩
def spTk (K : PySem.W.Frag) : Sp := fun vs H Q _ => ∃ r sc ns, ∃ m : Nat, vs = [.ref r, .int m] ∧ RowOk K H r sc ns ∧ 1 ≤ m ∧ m ≤ 1000 ∧ ∀ (x : Nat) H', x < m → ExB r H H' → RowOk K H' r sc ns → Q (.int x) H'
theorem ev_int1 {σ : L2.St} {H : Hp} {te : TE} {i : Int} (h : Ev te σ H (.int i)) : Ev (tCB (fun xs H Q => (∃ i, xs = [.int i] ∧ Q (.int i) H) ∨ ∃ k, xs = [.bl k] ∧ Q (.int (if k then 1 else 0)) H) (tCons te tNil)) σ H (.int i) :=
  ev_cb (ea_cons h ea_nil) fun H1 e Q q => .inl ⟨i, rfl, q H1 (Ex.refl H1)⟩
theorem mod_nat (x : Int) {m : Nat} (h : 1 ≤ m) : ∃ y : Nat, x % (m : Int) = (y : Nat) ∧ y < m := by
  have h1 := Int.emod_nonneg x (show (m : Int) ≠ 0 by omega)
  have h2 := Int.emod_lt_of_pos x (show (0 : Int) < m by omega)
  exact ⟨(x % (m : Int)).toNat, by omega, by omega⟩
/-- the row's cell written -/
theorem RowOk.set {H H1 : Hp} {r sc : Addr} {ns : List Int} (h : RowOk K H r sc ns) (e : Ex H H1) {i : Nat} {j k : Int} : RowOk K (upd H1 r (.lst [.ref sc, .int (i : Nat), .int j, .int k])) r sc ns ∧ ExB r H (upd H1 r (.lst [.ref sc, .int (i : Nat), .int j, .int k])) :=
  ⟨⟨⟨i, j, k, upd_same⟩, exb_l (ExB.upd e) h.ne h.scr, h.ne⟩, ExB.upd e⟩
theorem ok_tk (D : DefAt K mg "_law_taken" sTk) (T : Bts mg) : Gd P w K mg base 1 "_law_taken" ["_law_row", "_law_many"] (spTk K) := by
  refine gd_of D scTk (fun vs H Q E h => ?_) (fun _ _ _ _ _ _ us hl => match us, hl with | [_, _], _ => rfl) fun f cdv A outer s H vs Q E hr h => ?_
  · obtain ⟨r, sc, ns, m, rfl, _⟩ := h
    rfl
  · obtain ⟨r, sc, ns, m, rfl, hrow, m1, m2, k⟩ := h
    refine ⟨_, pss_cons (ps_if (pt_cmpR op_gt (pe_ix ix_list (pv 0) pe_int (fun _ _ => rfl)) pe_int (nomark _))
        (pss_cons (ps_set (i := 2) scTk.nd rfl (Or.inl rfl) (pe_op op_mod (pe_callTy call_int1 (by rfl) T.int PyProof.Rows.boot_int (pa_cons (pe_ix ix_list (pv 0) pe_int (fun _ _ => rfl)) pa_nil)) (pv 1)))
        (pss_cons (ps_asg (pe_op op_fdiv (pe_ix ix_list (pv 0) pe_int (fun _ _ => rfl)) (pv 1)) (pg_sub (pv 0) pe_int set_list))
        (pss_one (ps_ret (pv 2)))))
        pss_nil)
      (pss_cons (ps_asg (pe_op op_add (pe_ix ix_list (pv 0) pe_int (fun _ _ => rfl)) pe_int) (pg_sub (pv 0) pe_int set_list))
      (pss_cons (ps_if (pt_cmpR op_gt (pe_ix ix_list (pv 0) pe_int (fun _ _ => rfl)) (pe_callB call_len_seq (by rfl) T.len PySem.boot_len (pa_cons (pe_ix ix_list (pv 0) pe_int (fun _ _ => rfl)) pa_nil)) (nomark _))
        (pss_cons (ps_asg (pe_op op_mod (pe_callTy call_int1 (by rfl) T.int PyProof.Rows.boot_int (pa_cons (pe_op op_add (pe_op op_mul (pe_ix ix_list (pv 0) pe_int (fun _ _ => rfl)) pe_int) pe_int) pa_nil)) pe_int) (pg_sub (pv 0) pe_int set_list))
        (pss_one (ps_ret (pe_op op_mod (pe_callTy call_int1 (by rfl) T.int PyProof.Rows.boot_int (pa_cons (pe_op op_fdiv (pe_ix ix_list (pv 0) pe_int (fun _ _ => rfl)) pe_int) pa_nil)) (pv 1)))))
        pss_nil)
      (pss_cons (ps_set (i := 3) scTk.nd rfl (Or.inl rfl) (pe_ix ix_list (pe_ix ix_list (pv 0) pe_int (fun _ _ => rfl)) (pe_op op_sub (pe_ix ix_list (pv 0) pe_int (fun _ _ => rfl)) pe_int) (fun _ _ => rfl)))
      (pss_cons (ps_asg (pe_op op_mod (pe_callTy call_int1 (by rfl) T.int PyProof.Rows.boot_int (pa_cons (pe_op op_add (pe_op op_add (pe_op op_mul (pe_ix ix_list (pv 0) pe_int (fun _ _ => rfl)) pe_int) (pv 3)) pe_int) pa_nil)) pe_int) (pg_sub (pv 0) pe_int set_list))
      (pss_cons (ps_if (pt_cmpR op_ge (pv 3) (pe_op op_pow pe_int pe_int) (nomark _))
        (pss_one (ps_asg (pe_op op_fdiv (pv 3) (pv 1)) (pg_sub (pv 0) pe_int set_list)))
        pss_nil)
      (pss_one (ps_ret (pe_op op_mod (pe_callTy call_int1 (by rfl) T.int PyProof.Rows.boot_int (pa_cons (pv 3) pa_nil)) (pv 1))))))))), ?_⟩
    have hm : (0 : Int) < (m : Nat) := by omega
    have hdv : CDiv 1 (m : Nat) := ⟨hm, by omega⟩
    have hdiv : ∀ x : Int, RV (rI CDiv fun i j => .int (i / j)) (.int x) (.int (m : Nat)) H (.int (x / (m : Nat))) := fun x => rv_I ⟨hm, by omega⟩
    obtain ⟨i, j, c, h1⟩ := id hrow.ex
    have rd : ∀ {H1 : Hp} {i : Nat} {j c : Int} {σ : L2.St} (h : H1 r = some (.lst [.ref sc, .int (i : Nat), .int j, .int c])) (hσ : σ[0]? = some (some (.ref r))),
        Ev (tOp (rIxL K) (tVar 0) (tC (.int 0))) σ H1 (.ref sc) ∧ Ev (tOp (rIxL K) (tVar 0) (tC (.int 1))) σ H1 (.int (i : Nat)) ∧ Ev (tOp (rIxL K) (tVar 0) (tC (.int 2))) σ H1 (.int j) ∧ Ev (tOp (rIxL K) (tVar 0) (tC (.int 3))) σ H1 (.int c) := fun h hσ =>
      ⟨ev_ixL (ev_var hσ) (sq_of h) ev_c (atI_nat (j := 0) rfl), ev_ixL (ev_var hσ) (sq_of h) ev_c (atI_nat (j := 1) rfl), ev_ixL (ev_var hσ) (sq_of h) ev_c (atI_nat (j := 2) rfl), ev_ixL (ev_var hσ) (sq_of h) ev_c (atI_nat (j := 3) rfl)⟩
    refine q_when (b := decide (0 < c)) (et_test (ev_op (rd h1 rfl).2.2.2 ev_c rv_I0)) (fun hb H2 e2 => ?_) fun hb H2 e2 => ?_
    · obtain ⟨y, hy, hym⟩ := mod_nat c m1
      refine q_asg (v := .int (y : Nat)) (ev_is (ev_op (ev_int1 (rd (e2 r _ h1) rfl).2.2.2) (ev_var rfl) (rv_I hm)) (congrArg V.int hy)) fun H3 e3 => ?_
      refine q_setL (j := 3) ((e2.trans e3) r _ h1) (ev_op (rd ((e2.trans e3) r _ h1) rfl).2.2.2 (ev_var rfl) (rv_I (C := CDiv) (g := fun i j => .int (i / j)) ⟨hm, by omega⟩)) (ev_var rfl) (ev_is ev_c rfl) (by show 3 < 4; decide) fun H4 e4 => ?_
      obtain ⟨g1, g2⟩ := hrow.set ((e2.trans e3).trans e4) (i := i) (j := j) (k := c / (m : Nat))
      exact s_ret (ev_var rfl) fun H5 e5 => k y H5 hym (g2.trans (Ex.b e5)) (g1.mono e5)
    · refine q_setL (j := 1) (e2 r _ h1) (ev_op (rd (e2 r _ h1) rfl).2.1 ev_c rv_I0) (ev_var rfl) (ev_is ev_c rfl) (by show 1 < 4; decide) fun H3 e3 => ?_
      rw [nat_succ]
      obtain ⟨g1, g2⟩ := hrow.set (e2.trans e3) (i := i + 1) (j := j) (k := c)
      have h3 : upd H3 r (.lst [.ref sc, .int ((i + 1 : Nat) : Int), .int j, .int c]) r = some (.lst [.ref sc, .int ((i + 1 : Nat) : Int), .int j, .int c]) := upd_same
      show tSeq _ _ _ _ (upd H3 r (.lst [.ref sc, .int ((i + 1 : Nat) : Int), .int j, .int c]))
      generalize upd H3 r (.lst [.ref sc, .int ((i + 1 : Nat) : Int), .int j, .int c]) = H4 at g1 g2 h3
      refine q_when (b := decide (((iL ns).length : Int) < ((i + 1 : Nat) : Int))) (et_test (ev_op (rd h3 rfl).2.1 (ev_len (rd h3 rfl).1 g1.scr) rv_I0)) (fun hb H5 e5 => ?_) fun hb H5 e5 => ?_
      · have g3 := g1.mono e5
        refine q_setL (j := 2) (e5 r _ h3) (ev_op (ev_int1 (ev_op (ev_op (rd (e5 r _ h3) rfl).2.2.1 ev_c (rv_I (C := CMul) (g := fun i j => .int (i * j)) (.inr ⟨by decide, by decide⟩))) ev_c rv_I0)) ev_c (rv_I (by decide))) (ev_var rfl) (ev_is ev_c rfl) (by show 2 < 4; decide) fun H6 e6 => ?_
        obtain ⟨k1, k2⟩ := g3.set e6 (i := i + 1) (j := (j * 48271 + 11) % 2147483647) (k := c)
        have h6 : upd H6 r (.lst [.ref sc, .int ((i + 1 : Nat) : Int), .int ((j * 48271 + 11) % 2147483647), .int c]) r = some (.lst [.ref sc, .int ((i + 1 : Nat) : Int), .int ((j * 48271 + 11) % 2147483647), .int c]) := upd_same
        show tRet _ _ _ (upd H6 r (.lst [.ref sc, .int ((i + 1 : Nat) : Int), .int ((j * 48271 + 11) % 2147483647), .int c]))
        generalize upd H6 r (.lst [.ref sc, .int ((i + 1 : Nat) : Int), .int ((j * 48271 + 11) % 2147483647), .int c]) = H7 at k1 k2 h6
        obtain ⟨y, hy, hym⟩ := mod_nat ((j * 48271 + 11) % 2147483647 / 7) m1
        exact s_ret (ev_is (ev_op (ev_int1 (ev_op (rd h6 rfl).2.2.1 ev_c (rv_I (C := CDiv) (g := fun i j => .int (i / j)) ⟨by decide, by decide⟩))) (ev_var rfl) (rv_I hm)) (congrArg V.int hy)) fun H8 e8 => k y H8 hym ((g2.trans (Ex.b e5)).trans (k2.trans (Ex.b e8))) (k1.mono e8)
      · have hlt : i < ns.length := by
          have := of_decide_eq_false hb
          rw [List.length_map] at this
          omega
        have g3 := g1.mono e5
        have h5 := e5 r _ h3
        refine q_asg (v := .int (gd ns i)) (ev_ixL (rd h5 rfl).1 g3.scr (ev_is (ev_op (rd h5 rfl).2.1 ev_c rv_I0) (congrArg V.int (show ((i + 1 : Nat) : Int) - 1 = (i : Nat) by omega))) (at_gd hlt)) fun H6 e6 => ?_
        refine q_setL (j := 2) (e6 r _ h5) (ev_op (ev_int1 (ev_op (ev_op (ev_op (rd (e6 r _ h5) rfl).2.2.1 ev_c (rv_I (C := CMul) (g := fun i j => .int (i * j)) (.inr ⟨by decide, by decide⟩))) (ev_var rfl) rv_I0) ev_c rv_I0)) ev_c (rv_I (by decide))) (ev_var rfl) (ev_is ev_c rfl) (by show 2 < 4; decide) fun H7 e7 => ?_
        generalize (j * 48271 + gd ns i + 11) % 2147483647 = j2
        obtain ⟨k1, k2⟩ := g3.set (e6.trans e7) (i := i + 1) (j := j2) (k := c)
        have h7 : upd H7 r (.lst [.ref sc, .int ((i + 1 : Nat) : Int), .int j2, .int c]) r = some (.lst [.ref sc, .int ((i + 1 : Nat) : Int), .int j2, .int c]) := upd_same
        show tSeq _ _ _ _ (upd H7 r (.lst [.ref sc, .int ((i + 1 : Nat) : Int), .int j2, .int c]))
        generalize upd H7 r (.lst [.ref sc, .int ((i + 1 : Nat) : Int), .int j2, .int c]) = H8 at k1 k2 h7
        obtain ⟨y, hy, hym⟩ := mod_nat (gd ns i) m1
        have g28 := g2.trans ((Ex.b e5).trans k2)
        refine q_when (b := decide ((10 : Int) ^ (18 : Int).toNat ≤ gd ns i)) (et_test (ev_op (ev_var rfl) (ev_op ev_c ev_c (rv_I (C := CPow) (g := fun i j => .int (i ^ j.toNat)) ⟨by decide, by decide, by decide⟩)) rv_I0)) (fun hb H9 e9 => ?_) fun hb H9 e9 => ?_
        · refine s_setL (j := 3) (e9 r _ h7) (ev_op (ev_var rfl) (ev_var rfl) (rv_I (C := CDiv) (g := fun i j => .int (i / j)) ⟨hm, by omega⟩)) (ev_var rfl) (ev_is ev_c rfl) (by show 3 < 4; decide) fun Ha ea => ?_
          obtain ⟨z1, z2⟩ := k1.set (e9.trans ea) (i := i + 1) (j := j2) (k := gd ns i / (m : Nat))
          have fin : tRet (tOp (rI (fun _ j => 0 < j) fun i j => .int (i % j)) (tCB (fun xs H Q => (∃ i, xs = [.int i] ∧ Q (.int i) H) ∨ ∃ k, xs = [.bl k] ∧ Q (.int (if k then 1 else 0)) H) (tCons (tVar 3) tNil)) (tVar 1)) { nx := fun _ H' => Q .non H', rt := Q } [some (.ref r), some (.int (m : Nat)), none, some (.int (gd ns i))] (L2.upd Ha r (.lst [.ref sc, .int ((i + 1 : Nat) : Int), .int j2, .int (gd ns i / (m : Nat))])) :=
            s_ret (ev_is (ev_op (ev_int1 (ev_var rfl)) (ev_var rfl) (rv_I hm)) (congrArg V.int hy)) fun Hb eb => k y Hb hym ((g28.trans z2).trans (Ex.b eb)) (z1.mono eb)
          exact fin
        · exact s_ret (ev_is (ev_op (ev_int1 (ev_var rfl)) (ev_var rfl) (rv_I hm)) (congrArg V.int hy)) fun Hb eb => k y Hb hym (g28.trans (Ex.b (e9.trans eb))) (k1.mono (e9.trans eb))
end
end LW

set_option maxHeartbeats 4000000
namespace LW
open PySem PySem.Spec PyProof.Rows L2 Evl LR RZ
section
variable {K : PySem.W.Frag} {σ : L2.St} {H H' : Hp} {r sc : Addr} {ns : List Int}
theorem RowOk.at {H1 : Hp} (h : RowOk K H r sc ns) (e : ExB r H H1) (x : ∃ (i : Nat) (j k : Int), H1 r = some (.lst [.ref sc, .int (i : Nat), .int j, .int k])) : RowOk K H1 r sc ns := ⟨x, exb_l e h.ne h.scr, h.ne⟩
theorem RowOk.ref (h : RowOk K H r sc ns) {p : Addr} (hp : H p = none) : p ≠ r := fun z => by
  obtain ⟨i, j, k, h1⟩ := h.ex
  rw [z, h1] at hp
  cases hp
/-- a row of a problem -/
def IsRow (K : PySem.W.Frag) (H : Hp) (b : Addr) (many : Nat) : Prop := ∃ xs, SqT K H b (iL xs) ∧ xs.length = many ∧ ∀ x ∈ xs, InE x
theorem IsRow.b {b : Addr} {many : Nat} {p : Addr} {ys : List V} (h : IsRow K H b many) (e : ExB p H H') (hp : H p = some (.lst ys)) : IsRow K H' b many := by
  obtain ⟨xs, h1, h2⟩ := h
  exact ⟨xs, exb_t e hp h1, h2⟩
theorem IsRow.mono {b : Addr} {many : Nat} (h : IsRow K H b many) (e : Ex H H') : IsRow K H' b many := by
  obtain ⟨xs, h1, h2⟩ := h
  exact ⟨xs, ex_t e h1, h2⟩
theorem mk_at {p a0 a1 a2 a3 : Addr} {many : Nat} (hp : SqT K H p [.ref a0, .ref a1, .ref a2, .ref a3]) (h0 : IsRow K H a0 many) (h1 : IsRow K H a1 many) (h2 : IsRow K H a2 many) (h3 : IsRow K H a3 many) (m1 : 1 ≤ many) (m2 : many ≤ 12) :
    ∃ L : Pl, At K H p L ∧ L.Ok ∧ L.n = many := by
  obtain ⟨d, d1, d2, d3⟩ := h0
  obtain ⟨s, s1, s2, s3⟩ := h1
  obtain ⟨c, c1, c2, c3⟩ := h2
  obtain ⟨h, g1, g2, g3⟩ := h3
  refine ⟨⟨d, s, c, h⟩, ⟨a0, a1, a2, a3, hp, d1, s1, c1, g1⟩, ⟨by show 1 ≤ d.length; omega, by show d.length ≤ 12; omega, by show s.length = d.length; omega, by show c.length = d.length; omega, by show h.length = d.length; omega, d3, s3, c3, g3⟩, d2⟩
/-- what draws from the row -/
def ER (K : PySem.W.Frag) (r sc : Addr) (ns : List Int) (te : TE) (σ : L2.St) (post : V → Hp → Prop) : Prop :=
  ∀ H1, RowOk K H1 r sc ns → ∀ Q : VK, (∀ v H2, ExB r H1 H2 → RowOk K H2 r sc ns → post v H2 → Q v H2) → te σ H1 Q
/-- [e for at in range(n)], the row drawn from: Pn a word of the heap and what stands in the list, kept by writes to the new list -/
theorem lc_row {te : TE} {ta : TA} {j : Nat} {vs : List Nat} {n : Nat} (G : Hp → V → Prop) (hG : ∀ (H H' : Hp) (v : V) (p : Addr) (ys : List V), H p = some (.lst ys) → ExB p H H' → G H v → G H' v)
    (hn : n ≤ 1000) (ha : ∀ H1, EvA ta σ H1 [.int (n : Nat)]) (hw : ∀ x, wipe ((wipe σ vs).set j (some x)) vs = wipe σ vs)
    (he : ∀ (x : V), ER K r sc ns te ((wipe σ vs).set j (some x)) fun v H2 => G H2 v) (hrow : RowOk K H r sc ns) (Q : VK)
    (q : ∀ p ys H2, H p = none → ExB r H H2 → RowOk K H2 r sc ns → H2 p = some (.lst ys) → ys.length = n → (∀ y ∈ ys, G H2 y) → Q (.ref p) H2) : tLc (iRng1 ta) (gName j) tYes te vs σ H Q :=
  ha H H (Ex.refl H) _ fun H1 e1 => ⟨(n : Nat), rfl, by omega, by omega, fun Dl hD =>
    lc_range (lo := 0) (n := n) (fun i H' => ∃ ys, ExB r H H' ∧ (∃ (i : Nat) (j k : Int), H' r = some (.lst [.ref sc, .int (i : Nat), .int j, .int k])) ∧ H' Dl = some (.lst ys) ∧ ys.length = i ∧ ∀ y ∈ ys, G H' y)
      ⟨[], (Ex.b (e1.trans (Ex.new hD))), (by
        obtain ⟨i, j, k, h1⟩ := hrow.ex
        exact ⟨i, j, k, (e1.trans (Ex.new hD)) r _ h1⟩), upd_same, rfl, fun y hy => (nomatch hy)⟩ (fun i H' hi p => ⟨hw _, by
        obtain ⟨ys, p1, p2, p3, p4, p5⟩ := p
        have hDr : Dl ≠ r := hrow.ref (fresh_back e1 hD)
        show te _ H' _
        refine he _ H' (hrow.at p1 p2) _ fun v H2 eb ro hv => ?_
        have hl2 := eb Dl _ hDr p3
        obtain ⟨r1, r2, r3, hr2⟩ := ro.ex
        have eD : ExB Dl H2 (upd H2 Dl (.lst (ys ++ [v]))) := ExB.upd (Ex.refl H2)
        have hr0 := p2.choose_spec.choose_spec.choose_spec
        refine ⟨ys, hl2, sz_lt (by omega), ys ++ [v], ExB.mut (p1.trans eb) (fresh_back e1 hD), ⟨r1, r2, r3, by rw [upd_ne hDr.symm]; exact hr2⟩, upd_same, by rw [List.length_append, p4]; rfl, fun y hy => ?_⟩
        rcases List.mem_append.mp hy with hy | hy
        · exact hG _ _ _ _ _ hl2 eD (hG _ _ _ _ _ hr0 eb (p5 y hy))
        · rw [List.mem_singleton.mp hy]
          exact hG _ _ _ _ _ hl2 eD hv⟩)
      (fun H' p => by
        obtain ⟨ys, p1, p2, p3, p4, p5⟩ := p
        exact q Dl ys H' (fresh_back e1 hD) p1 (hrow.at p1 p2) p3 p4 p5)⟩
end
end LW

set_option maxHeartbeats 4000000
namespace LW
open PySem PySem.Spec PyProof.Rows L2 Evl LR RZ
theorem takenK {X : Cx} (K : PySem.W.Frag) (h : X.K = K := by rfl) : CallR X (.builtin "len") (rLenS K) := h ▸ call_len_seq
section
variable {P : Program} {w : World} {K : PySem.W.Frag} {mg : Str → Option Value} {base : Heap}
/-! ### _law_pick -/
abbrev sPk : Stmt := top 37
theorem scPk : FnScope ["_law_row", "_law_things"] ["_law_row", "_law_things"] (defScope sPk) := ⟨rfl, rfl, rfl, by decide +kernel, rfl, by decide +kernel, by decide +kernel⟩
def spPk (K : PySem.W.Frag) : Sp := fun vs H Q _ => ∃ r sc ns p zs, vs = [.ref r, .ref p] ∧ RowOk K H r sc ns ∧ SqL K H p (nums zs) ∧ p ≠ r ∧ 1 ≤ zs.length ∧ zs.length ≤ 1000 ∧ ∀ (x : Nat) H', x ∈ zs → ExB r H H' → RowOk K H' r sc ns → Q (.int x) H'
theorem ok_pk (D : DefAt K mg "_law_pick" sPk) (T : Bts mg) (GT : Gd P w K mg base 1 "_law_taken" ["_law_row", "_law_many"] (spTk K)) : Gd P w K mg base 2 "_law_pick" ["_law_row", "_law_things"] (spPk K) := by
  refine gd_of D scPk (fun vs H Q E h => ?_) (fun _ _ _ _ _ _ us hl => match us, hl with | [_, _], _ => rfl) fun f cdv A outer s H vs Q E hr h => ?_
  · obtain ⟨r, sc, ns, p, zs, rfl, _⟩ := h
    rfl
  · obtain ⟨r, sc, ns, p, zs, rfl, hrow, hp, hne, z1, z2, k⟩ := h
    refine ⟨_, pss_one (ps_ret (pe_ix ix_list (pv 1) (pe_go GT hr (by rfl) (pa_cons (pv 0) (pa_cons (pe_callB call_len_seq (by rfl) T.len PySem.boot_len (pa_cons (pv 1) pa_nil)) pa_nil))) (fun _ _ => rfl))), ?_⟩
    refine ⟨_, rfl, _, rfl, ?_⟩
    refine (ev_len (ev_var rfl) hp) H (Ex.refl H) _ fun H1 e1 => ⟨r, sc, ns, (nums zs).length, rfl, hrow.mono e1, by rw [nums_len]; exact z1, by rw [nums_len]; exact z2, fun x H2 hx eb ro => ?_⟩
    rw [nums_len] at hx
    exact ⟨p, nums zs, (x : Nat), _, rfl, rfl, exb_l ((Ex.b e1).trans eb) (.inl hne) hp, atI_nat (nums_at (List.getElem?_eq_getElem hx)), k _ _ (List.getElem_mem hx) ((Ex.b e1).trans eb) ro⟩
theorem er_pk {σ : L2.St} {r sc : Addr} {ns : List Int} {ta : TA} {zs : List Nat} (h0 : σ[0]? = some (some (.ref r))) (ha : ∀ H1, EvA ta σ H1 (nums zs)) (z1 : 1 ≤ zs.length) (z2 : zs.length ≤ 1000) :
    ER K r sc ns (tCall (spPk K) [] E0 (tCons (tVar 0) (tCons (tLst ta) tNil))) σ fun v _ => ∃ x ∈ zs, v = .int (x : Nat) := fun H1 ro Q q =>
  ⟨_, h0, (el_lst (ha H1) (by rw [nums_len]; omega)) H1 (Ex.refl H1) _ fun p H2 np e2 hp => ⟨r, sc, ns, p, zs, rfl, ro.mono e2, sq_of hp, ro.ref np, z1, z2, fun x H3 hx eb ro3 => q _ H3 ((Ex.b e2).trans eb) ro3 ⟨x, hx, rfl⟩⟩⟩
/-! ### _law_entries, _law_steps -/
abbrev sEn : Stmt := top 38
abbrev nEn : List Str := ["_law_row", "_law_many", "_law_most", "_law_at"]
theorem scEn : FnScope nEn ["_law_row", "_law_many", "_law_most"] (defScope sEn) := ⟨rfl, rfl, rfl, by decide +kernel, rfl, by decide +kernel, by decide +kernel⟩
def spEn (K : PySem.W.Frag) (d : Nat) : Sp := fun vs H Q _ => ∃ r sc ns, ∃ many most : Nat, vs = [.ref r, .int many, .int most] ∧ RowOk K H r sc ns ∧ many ≤ 1000 ∧ 1 ≤ most ∧ most + d ≤ 1000 ∧
  ∀ p H', ExB r H H' → RowOk K H' r sc ns → IsRow K H' p many → Q (.ref p) H'
theorem er_tk {σ : L2.St} {r sc : Addr} {ns : List Int} {i j m : Nat} (h0 : σ[i]? = some (some (.ref r))) (h1 : σ[j]? = some (some (.int (m : Nat)))) (m1 : 1 ≤ m) (m2 : m ≤ 1000) :
    ER K r sc ns (tCall (spTk K) [] E0 (tCons (tVar i) (tCons (tVar j) tNil))) σ fun v _ => ∃ x : Nat, x < m ∧ v = .int (x : Nat) := fun H1 ro Q q =>
  ⟨_, h0, _, h1, r, sc, ns, m, rfl, ro, m1, m2, fun x H2 hx eb ro2 => q _ H2 eb ro2 ⟨x, hx, rfl⟩⟩
theorem er_tkc {σ : L2.St} {r sc : Addr} {ns : List Int} {i m : Nat} (h0 : σ[i]? = some (some (.ref r))) (m1 : 1 ≤ m) (m2 : m ≤ 1000) :
    ER K r sc ns (tCall (spTk K) [] E0 (tCons (tVar i) (tCons (tC (.int (m : Nat))) tNil))) σ fun v _ => ∃ x : Nat, x < m ∧ v = .int (x : Nat) := fun H1 ro Q q =>
  ⟨_, h0, r, sc, ns, m, rfl, ro, m1, m2, fun x H2 hx eb ro2 => q _ H2 eb ro2 ⟨x, hx, rfl⟩⟩
/-- tuple of a drawn list is a row -/
theorem row_of {H : Hp} {Q : VK} {r sc p : Addr} {ns : List Int} {ys : List V} {many lim : Nat} (hl : H p = some (.lst ys)) (hn : ys.length = many) (hb : ∀ y ∈ ys, ∃ x : Nat, x < lim ∧ y = .int (x : Nat)) (hlim : lim ≤ 1000) (ro : RowOk K H r sc ns)
    (q : ∀ p H', Ex H H' → RowOk K H' r sc ns → IsRow K H' p many → Q (.ref p) H') : rTupS K [.ref p] H Q := by
  obtain ⟨xs, hx, h2⟩ : ∃ xs : List Int, ys = iL xs ∧ ∀ x ∈ xs, InE x := by
    clear hl hn
    induction ys with
    | nil => exact ⟨[], rfl, fun x hx => (nomatch hx)⟩
    | cons y r ih =>
      obtain ⟨xs, h1, h2⟩ := ih fun z hz => hb z (List.mem_cons_of_mem _ hz)
      obtain ⟨x, hx, rfl⟩ := hb y List.mem_cons_self
      refine ⟨(x : Nat) :: xs, by rw [h1]; rfl, fun z hz => ?_⟩
      rcases List.mem_cons.mp hz with rfl | hz
      · exact ⟨by omega, by omega⟩
      · exact h2 z hz
  subst hx
  rw [List.length_map] at hn
  exact ⟨p, iL xs, rfl, .inl ⟨sq_of hl, fun l hl => q l _ (Ex.new hl) (ro.mono (Ex.new hl)) ⟨xs, st_of upd_same, hn, h2⟩⟩⟩
theorem ok_en (D : DefAt K mg "_law_entries" sEn) (T : Bts mg) (GT : Gd P w K mg base 1 "_law_taken" ["_law_row", "_law_many"] (spTk K)) : Gd P w K mg base 2 "_law_entries" ["_law_row", "_law_many", "_law_most"] (spEn K 0) := by
  refine gd_of D scEn (fun vs H Q E h => ?_) (fun _ _ _ _ _ _ us hl => match us, hl with | [_, _, _], _ => rfl) fun f cdv A outer s H vs Q E hr h => ?_
  · obtain ⟨r, sc, ns, many, most, rfl, _⟩ := h
    rfl
  · obtain ⟨r, sc, ns, many, most, rfl, hrow, m0, m1, m2, k⟩ := h
    refine ⟨_, pss_one (ps_ret (pe_callTy call_tuple_of (by rfl) T.tuple PyProof.Rows.boot_tuple (pa_cons
      (pe_lc (own := [("_law_at", 3)]) (g := gName 3) (tt := tYes) rfl scEn.nd (pi_range1 rfl T.range (pa_cons (pv 1) pa_nil)) (blkOk_by (N := nEn) (sc := defScope sEn) (by decide +kernel))
        (fun _ _ _ _ _ => pg_name (i := 3) scEn.nd rfl (Or.inl rfl)) (fun _ _ _ _ _ => pts_nil)
        (fun _ _ _ _ _ => pe_go GT hr (by rfl) (pa_cons (pv 0) (pa_cons (pv 2) pa_nil)))) pa_nil))), ?_⟩
    exact lc_row (n := many) (fun _ v => ∃ x : Nat, x < most ∧ v = .int (x : Nat)) (fun _ _ _ _ _ _ _ h => h) m0 (fun H1 => ea_cons (ev_var rfl) ea_nil) (fun x => rfl) (fun x => er_tk (i := 0) (j := 2) rfl rfl m1 (by omega)) hrow (fun v H1 => rTupS K [v] H1 Q) fun p ys H2 np eb ro hl hn hb =>
      row_of hl hn hb (by omega) ro fun t H3 e3 ro3 h3 => k t H3 (eb.trans (Ex.b e3)) ro3 h3
abbrev sSt : Stmt := top 39
abbrev nSt : List Str := ["_law_row", "_law_many", "_law_most", "_law_base", "_law_at"]
theorem scSt : FnScope nSt ["_law_row", "_law_many", "_law_most"] (defScope sSt) := ⟨rfl, rfl, rfl, by decide +kernel, rfl, by decide +kernel, by decide +kernel⟩
theorem ok_st (D : DefAt K mg "_law_steps" sSt) (T : Bts mg) (GT : Gd P w K mg base 1 "_law_taken" ["_law_row", "_law_many"] (spTk K)) : Gd P w K mg base 2 "_law_steps" ["_law_row", "_law_many", "_law_most"] (spEn K 2) := by
  refine gd_of D scSt (fun vs H Q E h => ?_) (fun _ _ _ _ _ _ us hl => match us, hl with | [_, _, _], _ => rfl) fun f cdv A outer s H vs Q E hr h => ?_
  · obtain ⟨r, sc, ns, many, most, rfl, _⟩ := h
    rfl
  · obtain ⟨r, sc, ns, many, most, rfl, hrow, m0, m1, m2, k⟩ := h
    refine ⟨_, pss_cons (ps_set (i := 3) scSt.nd rfl (Or.inr rfl) (pe_go GT hr (by rfl) (pa_cons (pv 0) (pa_cons (pv 2) pa_nil))))
      (pss_one (ps_ret (pe_callTy call_tuple_of (by rfl) T.tuple PyProof.Rows.boot_tuple (pa_cons
      (pe_lc (own := [("_law_at", 4)]) (g := gName 4) (tt := tYes) rfl scSt.nd (pi_range1 rfl T.range (pa_cons (pv 1) pa_nil)) (blkOk_by (N := nSt) (sc := defScope sSt) (by decide +kernel))
        (fun _ _ _ _ _ => pg_name (i := 4) scSt.nd rfl (Or.inl rfl)) (fun _ _ _ _ _ => pts_nil)
        (fun _ _ _ _ _ => pe_op op_add (pv 3) (pe_ifExp (pt_cmpR op_eq (pe_go GT hr (by rfl) (pa_cons (pv 0) (pa_cons pe_int pa_nil))) pe_int (nomark _)) (pe_go GT hr (by rfl) (pa_cons (pv 0) (pa_cons pe_int pa_nil))) pe_int))) pa_nil)))), ?_⟩
    refine er_tk (i := 0) (j := 2) rfl rfl m1 (by omega) H hrow _ fun v H1 eb1 ro1 ⟨bs, hbs, ev⟩ => ?_
    subst ev
    refine lc_row (n := many) (fun _ v => ∃ x : Nat, x < most + 2 ∧ v = .int (x : Nat)) (fun _ _ _ _ _ _ _ h => h) m0 (fun H1 => ea_cons (ev_var rfl) ea_nil) (fun x => rfl) (fun x Ha ro Q' q' => ?_) ro1 (fun v H1 => rTupS K [v] H1 Q) fun p ys H2 np eb ro hl hn hb =>
      row_of hl hn hb (by omega) ro fun t H3 e3 ro3 h3 => k t H3 ((eb1.trans eb).trans (Ex.b e3)) ro3 h3
    refine ⟨_, rfl, ?_⟩
    refine er_tkc (i := 0) (m := 3) rfl (by decide) (by decide) Ha ro _ fun v Hb ebb rob ⟨y, hy, ev⟩ => ?_
    subst ev
    refine ⟨rfl, _, rfl, ?_⟩
    show (if decide (V.int (y : Nat) = V.int 0) = true then _ else _)
    by_cases hd : decide (V.int (y : Nat) = V.int 0) = true
    · rw [if_pos hd]
      refine er_tkc (i := 0) (m := 3) rfl (by decide) (by decide) Hb rob _ fun v Hc ebc roc ⟨z, hz, ev⟩ => ?_
      subst ev
      exact ⟨_, _, rfl, rfl, q' _ Hc (ebb.trans ebc) roc ⟨bs + z, by omega, congrArg V.int (by omega)⟩⟩
    · rw [if_neg hd]
      exact ⟨_, _, rfl, rfl, q' _ Hb ebb rob ⟨bs, by omega, congrArg V.int (by omega)⟩⟩
end
end LW

set_option maxHeartbeats 4000000
namespace LW
open PySem PySem.Spec PyProof.Rows L2 Evl LR RZ
section
variable {K : PySem.W.Frag} {σ : L2.St} {r sc : Addr} {ns : List Int} {many : Nat}
/-- _law_entries(row, many, e), _law_steps(..) -/
theorem er_en {te : TE} {d i j : Nat} (h0 : σ[i]? = some (some (.ref r))) (h1 : σ[j]? = some (some (.int (many : Nat)))) (hm : many ≤ 1000) (he : ER K r sc ns te σ fun v _ => ∃ most : Nat, v = .int (most : Nat) ∧ 1 ≤ most ∧ most + d ≤ 1000) :
    ER K r sc ns (tCall (spEn K d) [] E0 (tCons (tVar i) (tCons (tVar j) (tCons te tNil)))) σ fun v H => ∃ b, v = .ref b ∧ IsRow K H b many := fun H1 ro Q q =>
  ⟨_, h0, _, h1, he H1 ro _ fun v H2 eb2 ro2 ⟨most, ev, m1, m2⟩ => by
    subst ev
    exact ⟨r, sc, ns, many, most, rfl, ro2, hm, m1, m2, fun p H3 eb3 ro3 hp => q _ H3 (eb2.trans eb3) ro3 ⟨p, rfl, hp⟩⟩⟩
theorem er_c {te : TE} {m d : Nat} (h : ∀ H1, Ev te σ H1 (.int (m : Nat))) (m1 : 1 ≤ m) (m2 : m + d ≤ 1000) : ER K r sc ns te σ fun v _ => ∃ most : Nat, v = .int (most : Nat) ∧ 1 ≤ most ∧ most + d ≤ 1000 := fun H1 ro Q q =>
  h H1 H1 (Ex.refl H1) _ fun H2 e2 => q _ H2 (Ex.b e2) (ro.mono e2) ⟨m, rfl, m1, m2⟩
theorem er_weak {te : TE} {A B : V → Hp → Prop} (h : ER K r sc ns te σ A) (i : ∀ v H, A v H → B v H) : ER K r sc ns te σ B := fun H1 ro Q q => h H1 ro Q fun v H2 e2 ro2 a => q v H2 e2 ro2 (i v H2 a)
theorem er_if {tt : TT} {ta tb : TE} {A : V → Hp → Prop} {b : Bool} (h : ∀ H1, EvT tt σ H1 b) (h1 : ER K r sc ns ta σ A) (h2 : ER K r sc ns tb σ A) : ER K r sc ns (tIf tt ta tb) σ A := fun H1 ro Q q =>
  h H1 H1 (Ex.refl H1) _ fun H2 e2 => by
    cases b with
    | true => exact h1 H2 (ro.mono e2) Q fun v H3 e3 ro3 a => q v H3 ((Ex.b e2).trans e3) ro3 a
    | false => exact h2 H2 (ro.mono e2) Q fun v H3 e3 ro3 a => q v H3 ((Ex.b e2).trans e3) ro3 a
theorem RowOk.lst {H : Hp} (h : RowOk K H r sc ns) : ∃ ys, H r = some (.lst ys) := by
  obtain ⟨i, j, k, h1⟩ := h.ex
  exact ⟨_, h1⟩
end
section
variable {P : Program} {w : World} {K : PySem.W.Frag} {mg : Str → Option Value} {base : Heap}
/-! ### _law_problem -/
abbrev sPr : Stmt := top 40
abbrev nPr : List Str := ["_law_row", "_law_many", "_law_way", "_law_demands", "_law_setups", "_law_units", "_law_at"]
theorem scPr : FnScope nPr ["_law_row", "_law_many"] (defScope sPr) := ⟨rfl, rfl, rfl, by decide +kernel, rfl, by decide +kernel, by decide +kernel⟩
def spPr (K : PySem.W.Frag) : Sp := fun vs H Q _ => ∃ r sc ns, ∃ many : Nat, vs = [.ref r, .int many] ∧ RowOk K H r sc ns ∧ 1 ≤ many ∧ many ≤ 7 ∧ ∀ p L H', ExB r H H' → At K H' p L → L.Ok → L.n = many → Q (.ref p) H'
theorem pk_most {zs : List Nat} (h : ∀ x ∈ zs, 1 ≤ x ∧ x ≤ 1000) : ∀ (v : V) (H : Hp), (∃ x ∈ zs, v = .int (x : Nat)) → ∃ most : Nat, v = .int (most : Nat) ∧ 1 ≤ most ∧ most + 0 ≤ 1000 := fun v H ⟨x, hx, e⟩ => ⟨x, e, (h x hx).1, (h x hx).2⟩
theorem ok_pr (D : DefAt K mg "_law_problem" sPr) (T : Bts mg) (GT : Gd P w K mg base 1 "_law_taken" ["_law_row", "_law_many"] (spTk K)) (GK : Gd P w K mg base 2 "_law_pick" ["_law_row", "_law_things"] (spPk K))
    (GE : Gd P w K mg base 2 "_law_entries" ["_law_row", "_law_many", "_law_most"] (spEn K 0)) (GS : Gd P w K mg base 2 "_law_steps" ["_law_row", "_law_many", "_law_most"] (spEn K 2)) : Gd P w K mg base 3 "_law_problem" ["_law_row", "_law_many"] (spPr K) := by
  refine gd_of D scPr (fun vs H Q E h => ?_) (fun _ _ _ _ _ _ us hl => match us, hl with | [_, _], _ => rfl) fun f cdv A outer s H vs Q E hr h => ?_
  · obtain ⟨r, sc, ns, many, rfl, _⟩ := h
    rfl
  · obtain ⟨r, sc, ns, many, rfl, hrow, m1, m2, k⟩ := h
    have hr1 : Room 1 _ := hr.mono (by decide)
    refine ⟨_, pss_cons (ps_set (i := 2) scPr.nd rfl (Or.inl rfl) (pe_go GT hr1 (by rfl) (pa_cons (pv 0) (pa_cons pe_int pa_nil))))
      (pss_cons (ps_if (pt_cmpR op_eq (pv 2) pe_int (nomark _))
        (pss_one (ps_ret (pe_callTy call_tuple_of (by rfl) T.tuple PyProof.Rows.boot_tuple (pa_cons
          (pe_lc (own := [("_law_at", 6)]) (g := gName 6) (tt := tYes) rfl scPr.nd (pi_range1 rfl T.range (pa_cons pe_int pa_nil)) (blkOk_by (N := nPr) (sc := defScope sPr) (by decide +kernel))
            (fun _ _ _ _ _ => pg_name (i := 6) scPr.nd rfl (Or.inl rfl)) (fun _ _ _ _ _ => pts_nil)
            (fun _ _ _ _ _ => pe_go GE hr (by rfl) (pa_cons (pv 0) (pa_cons (pv 1) (pa_cons (pe_go GK hr (by rfl) (pa_cons (pv 0) (pa_cons (pe_lst (pa_cons pe_int (pa_cons pe_int pa_nil))) pa_nil))) pa_nil))))) pa_nil))))
        pss_nil)
      (pss_cons (ps_set (i := 3) scPr.nd rfl (Or.inl rfl) (pe_go GE hr (by rfl) (pa_cons (pv 0) (pa_cons (pv 1) (pa_cons (pe_go GK hr (by rfl) (pa_cons (pv 0) (pa_cons (pe_lst (pa_cons pe_int (pa_cons pe_int (pa_cons pe_int pa_nil)))) pa_nil))) pa_nil)))))
      (pss_cons (ps_set (i := 4) scPr.nd rfl (Or.inl rfl) (pe_ifExp (pt_cmpR op_lt (pv 2) pe_int (nomark _)) (pe_go GS hr (by rfl) (pa_cons (pv 0) (pa_cons (pv 1) (pa_cons pe_int pa_nil)))) (pe_go GE hr (by rfl) (pa_cons (pv 0) (pa_cons (pv 1) (pa_cons pe_int pa_nil))))))
      (pss_cons (ps_set (i := 5) scPr.nd rfl (Or.inl rfl) (pe_ifExp (pt_cmpR op_lt (pv 2) pe_int (nomark _)) (pe_go GS hr (by rfl) (pa_cons (pv 0) (pa_cons (pv 1) (pa_cons pe_int pa_nil)))) (pe_go GE hr (by rfl) (pa_cons (pv 0) (pa_cons (pv 1) (pa_cons pe_int pa_nil))))))
      (pss_one (ps_ret (pe_tup (pa_cons (pv 3) (pa_cons (pv 4) (pa_cons (pv 5) (pa_cons (pe_ifExp (pt_cmpR op_eq (pv 2) pe_int (nomark _)) (pe_go GS hr (by rfl) (pa_cons (pv 0) (pa_cons (pv 1) (pa_cons pe_int pa_nil)))) (pe_go GE hr (by rfl) (pa_cons (pv 0) (pa_cons (pv 1) (pa_cons pe_int pa_nil))))) pa_nil))))))))))), ?_⟩
    refine er_tkc (i := 0) (m := 5) rfl (by decide) (by decide) H hrow _ fun v H1 eb1 ro1 ⟨y, hy, ev⟩ => ?_
    subst ev
    refine q_when (b := decide (V.int (y : Nat) = V.int 4)) (et_test (ev_op (ev_var rfl) ev_c (rv_eq rfl))) (fun hb H2 e2 => ?_) fun hb H2 e2 => ?_
    · have ro2 := ro1.mono e2
      refine lc_row (n := 4) (fun H v => ∃ b, v = .ref b ∧ IsRow K H b many) (fun H H' v p ys hp e ⟨b, ev, hb⟩ => ⟨b, ev, hb.b e hp⟩) (by decide) (fun H1 => ea_cons ev_c ea_nil) (fun x => rfl)
        (fun x => er_en (i := 0) (j := 1) rfl rfl (by omega) (er_weak (er_pk (zs := [2, 1000]) rfl (fun H1 => ea_cons ev_c (ea_cons ev_c ea_nil)) (by decide) (by decide)) (pk_most (by decide)))) ro2 (fun v H1 => rTupS K [v] H1 Q) fun p ys H3 np eb ro hl hn hb => ?_
      match ys, hn, hl, hb with
      | [y0, y1, y2, y3], _, hl, hb =>
        obtain ⟨b0, rfl, g0⟩ := hb y0 (by simp)
        obtain ⟨b1, rfl, g1⟩ := hb y1 (by simp)
        obtain ⟨b2, rfl, g2⟩ := hb y2 (by simp)
        obtain ⟨b3, rfl, g3⟩ := hb y3 (by simp)
        refine ⟨p, _, rfl, .inl ⟨sq_of hl, fun l hl2 => ?_⟩⟩
        have e := Ex.new (o := .tup [.ref b0, .ref b1, .ref b2, .ref b3]) hl2
        obtain ⟨L, a1, a2, a3⟩ := mk_at (st_of (upd_same (H := H3) (a := l) (o := .tup [.ref b0, .ref b1, .ref b2, .ref b3]))) (g0.mono e) (g1.mono e) (g2.mono e) (g3.mono e) m1 (by omega)
        exact k l L _ ((eb1.trans (Ex.b e2)).trans (eb.trans (Ex.b e))) a1 a2 a3
    · have ro2 := ro1.mono e2
      refine er_en (many := many) (i := 0) (j := 1) rfl rfl (by omega) (er_weak (er_pk (zs := [3, 10, 30]) rfl (fun H1 => ea_cons ev_c (ea_cons ev_c (ea_cons ev_c ea_nil))) (by decide) (by decide)) (pk_most (by decide))) H2 ro2 _ fun v H3 eb3 ro3 ⟨b0, ev, g0⟩ => ?_
      subst ev
      refine er_if (b := decide ((y : Int) < 2)) (fun _ => et_test (ev_op (ev_var rfl) ev_c rv_I0)) (er_en (many := many) (i := 0) (j := 1) rfl rfl (by omega) (er_c (m := 60) (fun _ => ev_c) (by decide) (by decide))) (er_en (many := many) (i := 0) (j := 1) rfl rfl (by omega) (er_c (m := 40) (fun _ => ev_c) (by decide) (by decide))) H3 ro3 _ fun v H4 eb4 ro4 ⟨b1, ev, g1⟩ => ?_
      subst ev
      refine er_if (b := decide ((y : Int) < 3)) (fun _ => et_test (ev_op (ev_var rfl) ev_c rv_I0)) (er_en (many := many) (i := 0) (j := 1) rfl rfl (by omega) (er_c (m := 4) (fun _ => ev_c) (by decide) (by decide))) (er_en (many := many) (i := 0) (j := 1) rfl rfl (by omega) (er_c (m := 6) (fun _ => ev_c) (by decide) (by decide))) H4 ro4 _ fun v H5 eb5 ro5 ⟨b2, ev, g2⟩ => ?_
      subst ev
      refine ⟨_, rfl, _, rfl, _, rfl, ?_⟩
      refine er_if (b := decide (V.int (y : Nat) = V.int 0)) (fun _ => et_test (ev_op (ev_var rfl) ev_c (rv_eq rfl))) (er_en (many := many) (i := 0) (j := 1) rfl rfl (by omega) (er_c (m := 3) (fun _ => ev_c) (by decide) (by decide))) (er_en (many := many) (i := 0) (j := 1) rfl rfl (by omega) (er_c (m := 4) (fun _ => ev_c) (by decide) (by decide))) H5 ro5 _ fun v H6 eb6 ro6 ⟨b3, ev, g3⟩ => ?_
      subst ev
      refine ⟨by show 4 ≤ sizeLine; decide, fun l hl2 => ?_⟩
      have e := Ex.new (o := .tup [.ref b0, .ref b1, .ref b2, .ref b3]) hl2
      obtain ⟨_, q3⟩ := ro3.lst
      obtain ⟨_, q4⟩ := ro4.lst
      obtain ⟨_, q5⟩ := ro5.lst
      obtain ⟨L, a1, a2, a3⟩ := mk_at (st_of (upd_same (H := H6) (a := l) (o := .tup [.ref b0, .ref b1, .ref b2, .ref b3]))) (((g0.b (eb4.trans eb5) q3).b eb6 q5).mono e) (((g1.b eb5 q4).b eb6 q5).mono e) ((g2.b eb6 q5).mono e) (g3.mono e) m1 (by omega)
      exact k l L _ ((eb1.trans (Ex.b e2)).trans (((eb3.trans eb4).trans (eb5.trans eb6)).trans (Ex.b e))) a1 a2 a3
end
end LW

set_option maxHeartbeats 4000000
namespace LW
open PySem PySem.Spec PyProof.Rows L2 Evl LR RZ
/-- what setup_range tells of a least plan -/
theorem told_ok {L : Pl} (ok : L.Ok) {t : List Nat} (h : LP.IsOpt L.pb t) {i : Nat} (hi : i < L.n) :
    ∃ lo hi, LP.rng L.pb (LP.costL L.pb (LP.planL L.pb t)) (decide (0 < gd (LP.planL L.pb t) i)) i = some (lo, hi) ∧ lo ≤ gd L.s i ∧ (∀ w, hi = some w → gd L.s i ≤ w) ∧ (0 < gd (LP.planL L.pb t) i → lo = 0 ∧ hi = LP.worthOf L.pb i) ∧
      (gd (LP.planL L.pb t) i = 0 → hi = none ∧ ∀ w, LP.worthOf L.pb i = some w → 0 ≤ w → lo = w) ∧ 0 ≤ gd (LP.planL L.pb t) i := by
  have okp := ok.pb
  obtain ⟨_, _, hc, hpos⟩ := LP.plan_ok okp h
  have hi' : i < L.pb.n := hi
  obtain ⟨p1, p2⟩ := hpos i hi'
  have p1' : 0 < gd (LP.planL L.pb t) i ↔ i ∈ t := p1
  have p2' : 0 ≤ gd (LP.planL L.pb t) i := p2
  rw [hc]
  by_cases hm : i ∈ t
  · have hp := p1'.mpr hm
    rw [decide_eq_true hp]
    obtain ⟨h1, h2⟩ := LP.opt_in okp hi' h hm
    refine ⟨0, _, h1, (gd_in ok.es i).1, h2, fun _ => ⟨rfl, rfl⟩, fun z => by omega, p2'⟩
  · have hp : ¬ 0 < gd (LP.planL L.pb t) i := fun z => hm (p1'.mp z)
    rw [decide_eq_false hp]
    obtain ⟨r, h1, h2, h3⟩ := LP.opt_out okp hi' h hm
    exact ⟨r, none, h1, h2, fun w z => (nomatch z), fun z => absurd z hp, fun _ => ⟨rfl, h3⟩, p2'⟩
theorem plan_pass {L : Pl} (ok : L.Ok) {t : List Nat} (h : LP.IsOpt L.pb t) : PlanOk L (LP.planL L.pb t) := by
  obtain ⟨h1, h2, _, hpos⟩ := LP.plan_ok ok.pb h
  refine ⟨LP.planL_len _ _, fun y hy => ?_, h1, h2⟩
  exact (plan_bd ok h y hy).1
/-- the tolds of a list of plans -/
theorem tolds {H : Hp} {L : Pl} : ∀ {bs : List Addr}, (∀ b ∈ bs, ∃ t, LP.IsOpt L.pb t ∧ H b = some (.tup (iL (LP.planL L.pb t)))) →
    ∃ ts : List (List Nat), ts.length = bs.length ∧ ∀ (i : Nat) (b : Addr), bs[i]? = some b → LP.IsOpt L.pb (ts.getD i []) ∧ H b = some (.tup (iL (LP.planL L.pb (ts.getD i []))))
  | [], _ => ⟨[], rfl, fun i b h => by simp at h⟩
  | b :: r, h => by
    obtain ⟨t, h1, h2⟩ := h b List.mem_cons_self
    obtain ⟨ts, g1, g2⟩ := tolds (bs := r) fun c hc => h c (List.mem_cons_of_mem _ hc)
    refine ⟨t :: ts, by rw [List.length_cons, List.length_cons, g1], fun i c hc => ?_⟩
    cases i with
    | zero =>
      have e : b = c := Option.some.inj hc
      subst e
      exact ⟨h1, h2⟩
    | succ i => exact g2 i c hc
theorem oV_scal (o : Option Int) : scal (oV o) (oV o) = true := by
  cases o <;> rfl
section
variable {K : PySem.W.Frag} {σ : L2.St} {H : Hp} {tt ts t0 t1 tp tw tu : TE} {lo s pv : Int} {hi wo : Option Int}
theorem oV_some {o : Option Int} {w : Int} (h : o = some w) : oV o = .int w := by
  rw [h]
  rfl
theorem c1_false {q : Addr} (h8 : Ev tt σ H (.ref q)) (hs : Ev ts σ H (.int s)) (h0 : Ev t0 σ H (.int lo)) (h1 : Ev t1 σ H (oV hi)) (a : lo ≤ s) (b : ∀ w, hi = some w → s ≤ w) :
    EvT (tOr (tB (tIsN tt)) (tOr (tTest (tOp (rI0 fun i j => .bl (decide (i < j))) ts t0)) (tAnd (tB (tNotN t1)) (tTest (tOp (rI0 fun i j => .bl (decide (j < i))) ts t1))))) σ H false := by
  refine et_or (a := false) (et_isN h8) fun _ => et_or (a := false) (et_is (et_test (ev_op hs h0 rv_I0)) (decide_eq_false (by omega))) fun _ => ?_
  cases hi with
  | none => exact et_and (a := false) (b := false) (et_notN h1) fun z => nomatch z
  | some w =>
    have := b w rfl
    exact et_and (a := true) (et_notN h1) fun _ => et_is (et_test (ev_op hs h1 rv_I0)) (decide_eq_false (by omega))
theorem c2_false (hp : Ev tp σ H (.int pv)) (h0 : Ev t0 σ H (.int lo)) (h1 : Ev t1 σ H (oV hi)) (hw : Ev tw σ H (oV wo)) (a : 0 < pv → lo = 0 ∧ hi = wo) :
    EvT (tAnd (tTest (tOp (rI0 fun i j => .bl (decide (j < i))) tp (tC (.int 0)))) (tOr (tTest (tOp rNe t0 (tC (.int 0)))) (tTest (tOp rNe t1 tw)))) σ H false := by
  by_cases h : 0 < pv
  · obtain ⟨e1, e2⟩ := a h
    subst e1 e2
    refine et_is (et_and (a := true) (et_is (et_test (ev_op hp ev_c rv_I0)) (decide_eq_true h)) fun _ => et_or (a := false) (b := false) (et_is (et_test (ev_op h0 ev_c (rv_ne rfl))) rfl) fun _ => et_is (et_test (ev_op h1 hw (rv_ne (oV_scal hi)))) ?_) rfl
    rw [decide_eq_true rfl]
    rfl
  · exact et_and (a := false) (b := false) (et_is (et_test (ev_op hp ev_c rv_I0)) (decide_eq_false h)) fun z => nomatch z
theorem int_ne {x : Int} (h : ¬ x = 0) : decide (V.int x = V.int 0) = false := decide_eq_false fun z => h (V.int.inj z)
theorem c3_false (hp : Ev tp σ H (.int pv)) (h1 : Ev t1 σ H (oV hi)) (a : pv = 0 → hi = none) : EvT (tAnd (tTest (tOp rEq tp (tC (.int 0)))) (tB (tNotN t1))) σ H false := by
  by_cases h : pv = 0
  · rw [a h] at h1
    exact et_is (et_and (et_test (ev_op hp ev_c (rv_eq rfl))) fun _ => et_notN (v := .non) h1) (Bool.and_false _)
  · exact et_and (a := false) (b := false) (et_is (et_test (ev_op hp ev_c (rv_eq rfl))) (int_ne h)) fun z => nomatch z
theorem c4_false (hp : Ev tp σ H (.int pv)) (hw : Ev tw σ H (oV wo)) (h0 : Ev t0 σ H (.int lo)) (a : pv = 0 → ∀ w, wo = some w → 0 ≤ w → lo = w) :
    EvT (tAnd (tTest (tOp rEq tp (tC (.int 0)))) (tAnd (tB (tNotN tw)) (tAnd (tTest (tOp (rI0 fun i j => .bl (decide (j ≤ i))) tw (tC (.int 0)))) (tTest (tOp rNe t0 tw))))) σ H false := by
  by_cases h : pv = 0
  · cases wo with
    | none => exact et_is (et_and (b := false) (et_test (ev_op hp ev_c (rv_eq rfl))) fun _ => et_and (a := false) (b := false) (et_notN (v := .non) hw) fun z => nomatch z) (Bool.and_false _)
    | some w =>
      refine et_is (et_and (b := false) (et_test (ev_op hp ev_c (rv_eq rfl))) fun _ => et_and (a := true) (b := false) (et_notN (v := .int w) hw) fun _ => ?_) (Bool.and_false _)
      by_cases hz : 0 ≤ w
      · have e := a h w rfl hz
        subst e
        refine et_is (et_and (b := false) (et_test (ev_op hw ev_c rv_I0)) fun _ => et_is (et_test (ev_op h0 hw (rv_ne rfl))) ?_) (Bool.and_false _)
        show (!decide (V.int lo = V.int lo)) = false
        rw [decide_eq_true rfl]
        rfl
      · exact et_and (a := false) (b := false) (et_is (et_test (ev_op hw ev_c rv_I0)) (decide_eq_false hz)) fun z => nomatch z
  · exact et_and (a := false) (b := false) (et_is (et_test (ev_op hp ev_c (rv_eq rfl))) (int_ne h)) fun z => nomatch z
def usedB (s : Int) : Option Int → Bool
  | none => true
  | some w => decide (s ≤ w)
theorem ev_isN {v : V} (h : Ev tw σ H v) : Ev (tIsN tw) σ H (.bl (decide (v = .non))) := fun H1 e Q q => h H1 e _ fun H2 e2 => q H2 e2
theorem c5_false {u : Bool} (hu : Ev tu σ H (.bl u)) (hw : Ev tw σ H (oV wo)) (hs : Ev ts σ H (.int s)) (a : u = usedB s wo) : EvT (tTest (tOp rNe tu (tOrV (tIsN tw) (tOp (rI0 fun i j => .bl (decide (i ≤ j))) ts tw)))) σ H false := by
  subst a
  refine et_is (et_test (ev_op hu (y := .bl (usedB s wo)) ?_ (rv_ne rfl))) ?_
  · cases wo with
    | none => exact ev_orV (a := true) (b := true) (ev_isN (v := .non) hw) fun z => nomatch z
    | some w => exact ev_orV (a := false) (ev_isN (v := .int w) hw) fun _ => ev_op hs hw rv_I0
  · rw [decide_eq_true rfl]
    rfl
theorem iL_inj : ∀ {a b : List Int}, iL a = iL b → a = b
  | [], [], _ => rfl
  | [], _ :: _, e => by simp at e
  | _ :: _, [], e => by simp at e
  | x :: xs, y :: ys, e => by
    have e' : V.int x :: iL xs = V.int y :: iL ys := e
    injection e' with e1 e2
    rw [iL_inj e2, V.int.inj e1]
end
section
variable {P : Program} {w : World} {K : PySem.W.Frag} {mg : Str → Option Value} {base : Heap}
abbrev sLaw : Stmt := top 41
abbrev nLaw : List Str := ["_law_script", "_law_row", "_law_many", "_law_problem_here", "_law_plans", "_law_worths", "_law_plan", "_law_at", "_law_told", "_law_used"]
theorem scLaw : FnScope nLaw ["_law_script"] (defScope sLaw) := ⟨rfl, rfl, rfl, by decide +kernel, rfl, by decide +kernel, by decide +kernel⟩
def spLaw (K : PySem.W.Frag) : Sp := fun vs H Q _ => ∃ (a : Addr) (ns : List Int), vs = [.ref a] ∧ SqL K H a (ns.map V.int) ∧ ns.length ≤ 63 ∧ ∀ H', Q (.bl true) H'
theorem ok_law {f : Addr} {fd : FuncData} (F : Fun K "law" "law" sLaw f fd) (T : Bts mg) (GT : Gd P w K mg base 1 "_law_taken" ["_law_row", "_law_many"] (spTk K)) (GPr : Gd P w K mg base 3 "_law_problem" ["_law_row", "_law_many"] (spPr K))
    (GL : Gd P w K mg base 6 "least_plans" ["problem"] (spLpl K)) (GW : Gd P w K mg base 6 "worth" ["problem", "period"] (spWof K)) (GR : Gd P w K mg base 5 "setup_range" ["problem", "plan", "period"] (spRng K)) : FnOk P w K mg base CX0 7 f fd ["_law_script"] (spLaw K) := by
  refine F.ok scLaw (fun vs H Q E h => ?_) fun cdv A outer s H vs Q E hr h => ?_
  · obtain ⟨a, ns, rfl, _⟩ := h
    rfl
  · obtain ⟨sa, ns, rfl, hS, h63, k⟩ := h
    have hr1 : Room 1 _ := hr.mono (by decide)
    have hr3 : Room 3 _ := hr.mono (by decide)
    have hr5 : Room 5 _ := hr.mono (by decide)
    refine ⟨_, pss_cons (ps_set (i := 1) scLaw.nd rfl (Or.inl rfl) (pe_lst (pa_cons (pv 0) (pa_cons pe_int (pa_cons pe_int (pa_cons pe_int pa_nil))))))
      (pss_cons (ps_set (i := 2) scLaw.nd rfl (Or.inl rfl) (pe_op op_add pe_int (pe_go GT hr1 (by rfl) (pa_cons (pv 1) (pa_cons pe_int pa_nil)))))
      (pss_cons (ps_set (i := 3) scLaw.nd rfl (Or.inr rfl) (pe_go GPr hr3 (by rfl) (pa_cons (pv 1) (pa_cons (pv 2) pa_nil))))
      (pss_cons (ps_set (i := 4) scLaw.nd rfl (Or.inl rfl) (pe_go GL hr (by rfl) (pa_cons (pv 3) pa_nil)))
      (pss_cons (ps_setLc (i := 5) (own := [("_law_at", 7)]) (g := gName 7) (tt := tYes) rfl scLaw.nd rfl rfl (sw_true rfl rfl rfl (by decide +kernel)) (pi_range1 rfl T.range (pa_cons (pv 2) pa_nil)) (blkOk_by (N := nLaw) (sc := defScope sLaw) (by decide +kernel))
          (fun _ _ _ _ _ => pg_name (i := 7) scLaw.nd rfl (Or.inl rfl)) (fun _ _ _ _ _ => pts_nil)
          (fun _ _ _ _ _ => pe_go GW hr (by rfl) (pa_cons (pv 3) (pa_cons (pv 7) pa_nil))))
      (pss_cons (ps_for PassesOwn.never rfl (pi_list (pe_slice sl_list (pv 4) po_none (po_some pe_int))) (pg_name (i := 6) scLaw.nd rfl (Or.inl rfl))
        (pss_one (ps_for PassesOwn.never rfl (pi_range1 rfl T.range (pa_cons (pv 2) pa_nil)) (pg_name (i := 7) scLaw.nd rfl (Or.inr rfl))
          (pss_cons (ps_set (i := 8) scLaw.nd rfl (Or.inl rfl) (pe_go GR hr5 (by rfl) (pa_cons (pv 3) (pa_cons (pv 6) (pa_cons (pv 7) pa_nil)))))
          (pss_cons (ps_if (pw_or (pt_cmp (pc_isN (pv 8))) (pw_or (pt_cmpR op_lt (pe_ix ix_tup (pe_ix ix_tup (pv 3) pe_int (fun _ _ => rfl)) (pv 7) (fun _ _ => rfl)) (pe_ix ix_tup (pv 8) pe_int (fun _ _ => rfl)) (nomark _))
              (pw_or1 (pw_and (pt_cmp (pc_notN (pe_ix ix_tup (pv 8) pe_int (fun _ _ => rfl)))) (pw_and1 (pt_cmpR op_gt (pe_ix ix_tup (pe_ix ix_tup (pv 3) pe_int (fun _ _ => rfl)) (pv 7) (fun _ _ => rfl)) (pe_ix ix_tup (pv 8) pe_int (fun _ _ => rfl)) (nomark _)))).pt))).pt (pss_one (ps_ret pe_bl)) pss_nil)
          (pss_cons (ps_if (pw_and (pt_cmpR op_gt (pe_ix ix_tup (pv 6) (pv 7) (fun _ _ => rfl)) pe_int (nomark _)) (pw_and1 (pw_or (pt_cmpR op_ne (pe_ix ix_tup (pv 8) pe_int (fun _ _ => rfl)) pe_int (nomark _))
              (pw_or1 (pt_cmpR op_ne (pe_ix ix_tup (pv 8) pe_int (fun _ _ => rfl)) (pe_ix ix_list (pv 5) (pv 7) (fun _ _ => rfl)) (nomark _)))).pt)).pt (pss_one (ps_ret pe_bl)) pss_nil)
          (pss_cons (ps_if (pw_and (pt_cmpR op_eq (pe_ix ix_tup (pv 6) (pv 7) (fun _ _ => rfl)) pe_int (nomark _)) (pw_and1 (pt_cmp (pc_notN (pe_ix ix_tup (pv 8) pe_int (fun _ _ => rfl)))))).pt (pss_one (ps_ret pe_bl)) pss_nil)
          (pss_one (ps_if (pw_and (pt_cmpR op_eq (pe_ix ix_tup (pv 6) (pv 7) (fun _ _ => rfl)) pe_int (nomark _)) (pw_and (pt_cmp (pc_notN (pe_ix ix_list (pv 5) (pv 7) (fun _ _ => rfl)))) (pw_and (pt_cmpR op_ge (pe_ix ix_list (pv 5) (pv 7) (fun _ _ => rfl)) pe_int (nomark _))
              (pw_and1 (pt_cmpR op_ne (pe_ix ix_tup (pv 8) pe_int (fun _ _ => rfl)) (pe_ix ix_list (pv 5) (pv 7) (fun _ _ => rfl)) (nomark _)))))).pt (pss_one (ps_ret pe_bl)) pss_nil)))))))))
      (pss_cons (ps_for PassesOwn.never rfl (pi_range1 rfl T.range (pa_cons (pv 2) pa_nil)) (pg_name (i := 7) scLaw.nd rfl (Or.inr rfl))
        (pss_cons (ps_set (i := 9) scLaw.nd rfl (Or.inl rfl) (pe_cmpR (op_neD hr.units)
            (pe_lc (own := [("_law_plan", 6)]) (g := gName 6) rfl scLaw.nd (pi_list (pv 4)) (blkOk_by (N := nLaw) (sc := defScope sLaw) (by decide +kernel))
              (fun _ _ _ _ _ => pg_name (i := 6) scLaw.nd rfl (Or.inl rfl)) (fun _ _ _ _ _ => pts_one (pt_cmpR op_gt (pe_ix (ixT K) (pv 6) (pv 7) (fun _ _ => rfl)) pe_int (nomark _)))
              (fun _ _ _ _ _ => pv 6)) (pe_lst pa_nil) (nomark _)))
        (pss_one (ps_if (pt_cmpR op_ne (pv 9) (pe_or (pe_cmp (pc_isN (pe_ix ix_list (pv 5) (pv 7) (fun _ _ => rfl)))) (pe_one (pe_cmpR op_le (pe_ix ix_tup (pe_ix ix_tup (pv 3) pe_int (fun _ _ => rfl)) (pv 7) (fun _ _ => rfl)) (pe_ix ix_list (pv 5) (pv 7) (fun _ _ => rfl)) (nomark _)))) (nomark _)) (pss_one (ps_ret pe_bl)) pss_nil))))
      (pss_one (ps_ret pe_bl)))))))), ?_⟩
    refine q_asgL (el_lst (vs := [.ref sa, .int 0, .int 3389, .int 0]) (ea_cons (ev_var rfl) (ea_cons ev_c (ea_cons ev_c (ea_cons ev_c ea_nil)))) (by show 4 ≤ 100000; decide)) fun r H1 nr e1 hrow => ?_
    have row : RowOk K H1 r sa ns := ⟨⟨0, 3389, 0, hrow⟩, ex_l e1 hS, by
      rcases hS with (h | ⟨o, h⟩) | h
      · exact .inl fun z => by
          rw [z, nr] at h
          cases h
      · exact .inl fun z => by
          rw [z, nr] at h
          cases h
      · exact .inr fun H => .inr h⟩
    refine er_tkc (i := 1) (m := 7) rfl (by decide) (by decide) H1 row _ fun v H2 eb2 row2 ⟨y, hy, ev⟩ => ?_
    subst ev
    refine ⟨_, _, rfl, rfl, ?_⟩
    have hv : V.int (1 + (y : Nat)) = V.int ((1 + y : Nat) : Int) := congrArg V.int (by omega)
    show tSeq _ _ _ (List.set _ 2 (some (V.int (1 + (y : Nat))))) H2
    rw [hv]
    obtain ⟨many, hmany⟩ : ∃ m : Nat, m = 1 + y := ⟨_, rfl⟩
    rw [← hmany]
    refine ⟨_, rfl, _, rfl, r, sa, ns, many, rfl, row2, by omega, by omega, fun p L H3 eb3 hp ok hn => ?_⟩
    subst hn
    refine ⟨_, rfl, p, L, rfl, hp, ok, by omega, fun pl H4 npl e4 hpl => ?_⟩
    have n12 := ok.n12
    have hp4 := hp.mono e4
    refine q_asgL (el_lcR1 (n := ((L.n : Nat) : Int)) (fun _ => true) (fun i => oV (LP.worthOf L.pb i)) (ea_cons (ev_var rfl) ea_nil) (by omega) (fun x => rfl) (fun _ _ _ _ => et_yes) (fun i Ha ea hi _ => ev_wof (ea_cons (ev_var rfl) (ea_cons (ev_var rfl) ea_nil)) (hp4.mono ea) ok (by omega))) fun wl H5 nwl e5 hwl => ?_
    rw [given_all, Int.toNat_natCast] at hwl
    have wat : ∀ i, i < L.n → atI ((List.range L.n).map fun i => oV (LP.worthOf L.pb i)) ((i : Nat) : Int) = some (oV (LP.worthOf L.pb i)) := fun i hi => atI_nat (by rw [List.getElem?_map, List.getElem?_range hi]; rfl)
    have hp5 := hp4.mono e5
    have hpl5 := hpl.mono e5
    obtain ⟨bs, b1, b2, b3, b4⟩ := hpl5
    refine q_forNLn (el_sl (ev_var rfl) eo_none (eo_some ev_c) (sq_of b1)) (fun q i σ' H' => ∃ v6 v7 v8, σ' = [some (.ref sa), some (.ref r), some (.int (L.n : Nat)), some (.ref p), some (.ref pl), some (.ref wl), v6, v7, v8, none] ∧ Ex H5 H' ∧ H' q = some (.lst (cutV (bs.map V.ref) none (some 4))))
      (fun q Ha nq ea hq => ⟨none, none, none, rfl, ea, hq⟩) (fun q i σ' H' _ hP => ?_) (fun q j x σ' H' hx hP => ?_) fun q σ' H' hP => ?_
    · obtain ⟨_, _, _, _, _, hq⟩ := hP
      exact sq_of hq
    · obtain ⟨v6, v7, v8, rfl, e6, hq⟩ := hP
      have hmem : x ∈ bs.map V.ref := by
        have := List.mem_of_getElem? hx
        unfold cutV at this
        exact List.mem_of_mem_drop (List.mem_of_mem_take this)
      obtain ⟨b, hb, rfl⟩ := List.mem_map.mp hmem
      obtain ⟨t, ht, hbt⟩ := b3 b hb
      refine s_forR1 (n := ((L.n : Nat) : Int)) (ea_cons (ev_var rfl) ea_nil) (by omega) (fun i σ' H'' => ∃ v7 v8, σ' = [some (.ref sa), some (.ref r), some (.int (L.n : Nat)), some (.ref p), some (.ref pl), some (.ref wl), some (.ref b), v7, v8, none] ∧ Ex H' H'') (fun Ha ea => ⟨v7, v8, rfl, ea⟩) (fun i σ' H'' hi hP => ?_) fun σ' H'' hP => ?_
      · obtain ⟨v7, v8, rfl, e7⟩ := hP
        have hi' : i < L.n := by omega
        have e67 := e6.trans e7
        obtain ⟨lo, hi2, hrng, f1, f2, f3, f4, f5⟩ := told_ok ok ht hi'
        have hpl2 : (LP.planL L.pb t).length = L.n := LP.planL_len _ _
        refine ⟨_, rfl, _, rfl, _, rfl, p, b, L, LP.planL L.pb t, i, rfl, hp5.mono e67, ok, st_of (e67 b _ hbt), plan_pass ok ht, hi', ?_⟩
        rw [hrng]
        refine fun tp H8 e8 htp => ?_
        have e68 := e67.trans e8
        have fS : ∀ Hc, Ex H8 Hc → Ev (tOp (rIxT K) (tOp (rIxT K) (tVar 3) (tC (.int 1))) (tVar 7)) [some (.ref sa), some (.ref r), some (.int (L.n : Nat)), some (.ref p), some (.ref pl), some (.ref wl), some (.ref b), some (.int (i : Nat)), some (.ref tp), none] Hc (.int (gd L.s i)) := fun Hc ec =>
          ev_gd (i := i) (part1 (ev_var rfl) (hp5.mono (e68.trans ec))) (ev_var rfl) (by rw [ok.ls]; exact hi')
        have f0 : ∀ Hc, Ex H8 Hc → Ev (tOp (rIxT K) (tVar 8) (tC (.int 0))) [some (.ref sa), some (.ref r), some (.int (L.n : Nat)), some (.ref p), some (.ref pl), some (.ref wl), some (.ref b), some (.int (i : Nat)), some (.ref tp), none] Hc (.int lo) := fun Hc ec =>
          ev_op (ev_var rfl) ev_c (rv_ixT (st_of (ec tp _ htp)) (atI_nat (j := 0) rfl))
        have fh : ∀ Hc, Ex H8 Hc → Ev (tOp (rIxT K) (tVar 8) (tC (.int 1))) [some (.ref sa), some (.ref r), some (.int (L.n : Nat)), some (.ref p), some (.ref pl), some (.ref wl), some (.ref b), some (.int (i : Nat)), some (.ref tp), none] Hc (oV hi2) := fun Hc ec =>
          ev_op (ev_var rfl) ev_c (rv_ixT (st_of (ec tp _ htp)) (atI_nat (j := 1) rfl))
        have fp : ∀ Hc, Ex H8 Hc → Ev (tOp (rIxT K) (tVar 6) (tVar 7)) [some (.ref sa), some (.ref r), some (.int (L.n : Nat)), some (.ref p), some (.ref pl), some (.ref wl), some (.ref b), some (.int (i : Nat)), some (.ref tp), none] Hc (.int (gd (LP.planL L.pb t) i)) := fun Hc ec =>
          ev_gd (i := i) (es_ref (ev_var rfl) (st_of ((e68.trans ec) b _ hbt))) (ev_var rfl) (by rw [hpl2]; exact hi')
        have fw : ∀ Hc, Ex H8 Hc → Ev (tOp (rIxL K) (tVar 5) (tVar 7)) [some (.ref sa), some (.ref r), some (.int (L.n : Nat)), some (.ref p), some (.ref pl), some (.ref wl), some (.ref b), some (.int (i : Nat)), some (.ref tp), none] Hc (oV (LP.worthOf L.pb i)) := fun Hc ec =>
          ev_ixL (ev_var rfl) (sq_of ((e68.trans ec) wl _ hwl)) (ev_var rfl) (wat i hi')
        refine q_when (b := false) (c1_false (q := tp) (ev_var rfl) (fS H8 (Ex.refl H8)) (f0 H8 (Ex.refl H8)) (fh H8 (Ex.refl H8)) f1 f2) (fun z => nomatch z) fun _ Ha ea => ?_
        refine q_when (b := false) (c2_false (fp Ha ea) (f0 Ha ea) (fh Ha ea) (fw Ha ea) f3) (fun z => nomatch z) fun _ Hb eb => ?_
        have eab := ea.trans eb
        refine q_when (b := false) (c3_false (fp Hb eab) (fh Hb eab) fun z => (f4 z).1) (fun z => nomatch z) fun _ Hc ec => ?_
        have eac := eab.trans ec
        refine s_when (b := false) (c4_false (fp Hc eac) (fw Hc eac) (f0 Hc eac) fun z => (f4 z).2) (fun z => nomatch z) fun _ Hd ed => ?_
        exact ⟨_, _, rfl, e7.trans (e8.trans (eac.trans ed))⟩
      · obtain ⟨v7, v8, rfl, e7⟩ := hP
        exact ⟨_, _, _, rfl, e6.trans e7, e7 q _ hq⟩
    · obtain ⟨v6, v7, v8, rfl, e6, _⟩ := hP
      obtain ⟨ts, t1, t2⟩ := tolds b3
      refine q_forR1 (n := ((L.n : Nat) : Int)) (ea_cons (ev_var rfl) ea_nil) (by omega) (fun i σ' H'' => ∃ v7 v9, σ' = [some (.ref sa), some (.ref r), some (.int (L.n : Nat)), some (.ref p), some (.ref pl), some (.ref wl), v6, v7, v8, v9] ∧ Ex H5 H'') (fun Ha ea => ⟨v7, none, rfl, e6.trans ea⟩) (fun i σ' H'' hi hP => ?_) fun σ' H'' hP => ?_
      · obtain ⟨v7, v9, rfl, e7⟩ := hP
        have hi' : i < L.n := by omega
        have hpl2 : ∀ t, (LP.planL L.pb t).length = L.n := fun t => LP.planL_len _ _
        have pick : ∀ (j : Nat) (x : V), (bs.map V.ref)[j]? = some x → ∃ b, x = .ref b ∧ bs[j]? = some b := fun j x hx => by
          rw [List.getElem?_map] at hx
          cases hb : bs[j]? with
          | none => rw [hb] at hx; cases hx
          | some b =>
            rw [hb] at hx
            exact ⟨b, (Option.some.inj hx).symm, rfl⟩
        generalize hf : (fun j : Nat => decide (0 < gd (LP.planL L.pb (ts.getD j [])) i)) = fl
        have hfl : ∀ j, fl j = decide (0 < gd (LP.planL L.pb (ts.getD j [])) i) := fun j => by rw [← hf]
        refine q_asg (v := .bl (!(given (bs.map V.ref).length fl fun j => (bs.map V.ref).getD j .non).isEmpty)) (ev_opLL (el_lcL fl (fun j => (bs.map V.ref).getD j .non) (ev_var rfl) (sq_of (e7 pl _ b1)) (by rw [List.length_map]; omega) (fun x => rfl) (fun j x Ha ea hx => ?_) (fun j x Ha ea hx hfj => ?_)) (el_lst ea_nil (by decide)) fun pq qq Ha h1 h2 ea => rv_neNil (n := 1) (sq_of h1) (sq_of h2) (by decide) fun Hb eb x hx => ?_) fun H8 e8 => ?_
        · obtain ⟨b, rfl, hb⟩ := pick j x hx
          obtain ⟨_, g2⟩ := t2 j b hb
          rw [hfl]
          exact et_test (ev_op (ev_gd (i := i) (es_ref (ev_var rfl) (st_of ((e7.trans ea) b _ g2))) (ev_var rfl) (by rw [hpl2]; exact hi')) ev_c rv_I0)
        · refine ev_is (ev_var rfl) ?_
          rw [List.getD_eq_getElem?_getD, hx]
          rfl
        · unfold given at hx
          obtain ⟨j, hj, rfl⟩ := List.mem_map.mp hx
          have hj2 := List.mem_range.mp (List.mem_filter.mp hj).1
          have hj3 : j < bs.length := by
            rw [List.length_map] at hj2
            exact hj2
          have hb := List.getElem?_eq_getElem hj3
          obtain ⟨_, g2⟩ := t2 j _ hb
          have e9 : (bs.map V.ref).getD j .non = V.ref bs[j] := by
            rw [List.getD_eq_getElem?_getD, List.getElem?_map, hb]
            rfl
          show Dd K Hb ((bs.map V.ref).getD j .non) 1
          rw [e9]
          exact dd_tup (n := 0) (st_of (((e7.trans ea).trans eb) _ _ g2)) (dd_ints _ 0)
        · have e78 := e7.trans e8
          refine s_when (b := false) (c5_false (ev_var rfl) (ev_ixL (ev_var rfl) (sq_of (e78 wl _ hwl)) (ev_var rfl) (wat i hi')) (ev_gd (i := i) (part1 (ev_var rfl) (hp5.mono e78)) (ev_var rfl) (by rw [ok.ls]; exact hi')) ?_) (fun z => nomatch z) fun _ Ha ea => ⟨_, _, rfl, e78.trans ea⟩
          have hopt := LP.opt_used (P := L.pb) ok.pb (p := i) hi'
          have husedB : usedB (gd L.s i) (LP.worthOf L.pb i) = true ↔ ∀ w, LP.worthOf L.pb i = some w → L.pb.s i ≤ w := by
            cases hwo : LP.worthOf L.pb i with
            | none => exact ⟨fun _ w z => (nomatch z), fun _ => rfl⟩
            | some w0 => exact ⟨fun z w e => by
                have := of_decide_eq_true z
                rw [← Option.some.inj e]
                exact this, fun z => decide_eq_true (z w0 rfl)⟩
          rw [Bool.eq_iff_iff, husedB, ← hopt]
          constructor
          · intro hne
            have hne2 : given (bs.map V.ref).length fl (fun j => (bs.map V.ref).getD j .non) ≠ [] := fun z => by
              rw [z] at hne
              cases hne
            unfold given at hne2
            have hne3 : ((List.range (bs.map V.ref).length).filter fl) ≠ [] := fun z => hne2 (by rw [z]; rfl)
            obtain ⟨j, hj⟩ := List.exists_mem_of_ne_nil _ hne3
            obtain ⟨hj1, hj2⟩ := List.mem_filter.mp hj
            have hj3 : j < bs.length := by
              have := List.mem_range.mp hj1
              rw [List.length_map] at this
              exact this
            obtain ⟨g1, _⟩ := t2 j _ (List.getElem?_eq_getElem hj3)
            rw [hfl] at hj2
            obtain ⟨_, _, _, hpos⟩ := LP.plan_ok ok.pb g1
            exact ⟨_, g1, (hpos i hi').1.mp (of_decide_eq_true hj2)⟩
          · rintro ⟨t, ht, hit⟩
            obtain ⟨b, hb, hbt⟩ := b4 t ht
            obtain ⟨j, hj⟩ := List.getElem?_of_mem hb
            obtain ⟨g1, g2⟩ := t2 j b hj
            have hj3 : j < bs.length := (List.getElem?_eq_some_iff.mp hj).1
            rw [hbt] at g2
            have e9 : LP.planL L.pb t = LP.planL L.pb (ts.getD j []) := iL_inj (HO.tup.inj (Option.some.inj g2))
            obtain ⟨_, _, _, hpos⟩ := LP.plan_ok ok.pb ht
            have h9 : 0 < gd (LP.planL L.pb t) i := (hpos i hi').1.mpr hit
            rw [e9] at h9
            have hjf : j ∈ (List.range (bs.map V.ref).length).filter fl := List.mem_filter.mpr ⟨List.mem_range.mpr (by rw [List.length_map]; exact hj3), by rw [hfl]; exact decide_eq_true h9⟩
            have hin : (bs.map V.ref).getD j .non ∈ given (bs.map V.ref).length fl (fun j => (bs.map V.ref).getD j .non) := List.mem_map.mpr ⟨j, hjf, rfl⟩
            cases hg : given (bs.map V.ref).length fl (fun j => (bs.map V.ref).getD j .non) with
            | nil =>
              rw [hg] at hin
              cases hin
            | cons y z => rfl
      · exact s_ret ev_c fun Ha ea => k Ha
end
end LW

set_option maxHeartbeats 4000000
namespace LW
open PySem PySem.Spec PyProof.Rows L2 Evl LR RZ
theorem def_mk {K : PySem.W.Frag} {h : Heap} {mg : Str → Option Value} {x : Str} {st : Stmt} {f : Addr} {od an : Option Addr} {sl : Array (Option Value)} {oc kV dc pm cd ct : Value} (X : K.In h) (G : h.Ns mainGlobals mg)
    (a : PySem.W.nsIn K mainGlobals x = some (some (.ref f))) (l : K.lookup f = some ⟨oc, od, .func (PySem.W.fnOf x x (defArgs st) (defBody st) (defScope st) .none kV dc pm an cd ct), sl⟩) (c : PySem.W.codeIn K cd x = true) (k : PySem.W.keepIn K (.ref f) = true) : DefAt K mg x st :=
  ⟨f, _, fun_mk l c k, PySem.W.mg_of X G a⟩
theorem num_mk {K : PySem.W.Frag} {h : Heap} {mg : Str → Option Value} {x : Str} {i : Int} {t : Tok} (X : K.In h) (G : h.Ns mainGlobals mg) (a : PySem.W.nsIn K mainGlobals x = some (some (.int i t))) : ∃ t, mg x = some (.int i t) := ⟨t, PySem.W.mg_of X G a⟩
/-- the defs that the top has written -/
structure Defs (K : PySem.W.Frag) (mg : Str → Option Value) : Prop where
  d7 : DefAt K mg "is_int" (top 7)
  d8 : DefAt K mg "is_in" (top 8)
  d12 : DefAt K mg "need_problem" (top 12)
  d13 : DefAt K mg "periods_of" (top 13)
  d14 : DefAt K mg "kept" (top 14)
  d15 : DefAt K mg "stock_row" (top 15)
  d16 : DefAt K mg "need_plan" (top 16)
  d17 : DefAt K mg "need_both" (top 17)
  d18 : DefAt K mg "cost_of" (top 18)
  d19 : DefAt K mg "filled" (top 19)
  d22 : DefAt K mg "lot_cost" (top 22)
  d23 : DefAt K mg "stages" (top 23)
  d24 : DefAt K mg "last_starts_in" (top 24)
  d25 : DefAt K mg "plans_to" (top 25)
  d26 : DefAt K mg "least_plans" (top 26)
  d28 : DefAt K mg "without" (top 28)
  d29 : DefAt K mg "with_free" (top 29)
  d30 : DefAt K mg "need_period" (top 30)
  d31 : DefAt K mg "worth" (top 31)
  d32 : DefAt K mg "worth_of" (top 32)
  d33 : DefAt K mg "forced" (top 33)
  d34 : DefAt K mg "setup_range" (top 34)
  d36 : DefAt K mg "_law_taken" (top 36)
  d37 : DefAt K mg "_law_pick" (top 37)
  d38 : DefAt K mg "_law_entries" (top 38)
  d39 : DefAt K mg "_law_steps" (top 39)
  d40 : DefAt K mg "_law_problem" (top 40)
theorem all_ok {P : Program} {w : World} {K : PySem.W.Frag} {mg : Str → Option Value} {base : Heap} {f : Addr} {fd : FuncData} (F : Fun K "law" "law" sLaw f fd) (D : Defs K mg) (T : Bts mg) : FnOk P w K mg base CX0 7 f fd ["_law_script"] (spLaw K) := by
  have gPer := ok_per (P := P) (w := w) (base := base) D.d13 T
  have gKept := ok_kept (P := P) (w := w) (base := base) D.d14 T
  have gLot := ok_lot (P := P) (w := w) (base := base) D.d22 T gKept
  have gStg := ok_stg (P := P) (w := w) (base := base) D.d23 T gPer gLot
  have gLst := ok_lst (P := P) (w := w) (base := base) D.d24 T gPer gLot gStg
  have gFil := ok_fil (P := P) (w := w) (base := base) D.d19 T gPer
  have gStk := ok_stk (P := P) (w := w) (base := base) D.d15 T
  have gCst := ok_cst (P := P) (w := w) (base := base) D.d18 T gStk
  have gIsi := ok_isi (P := P) (w := w) (base := base) D.d7 T
  have gIn := ok_in (P := P) (w := w) (base := base) D.d8 T gIsi
  have gNpr := ok_npr (P := P) (w := w) (base := base) D.d12 T gIn
  have gNpe := ok_npe (P := P) (w := w) (base := base) D.d30 T gPer gIn
  have gNpl := ok_npl (P := P) (w := w) (base := base) D.d16 T gPer gIsi gStk
  have gNbo := ok_nbo (P := P) (w := w) (base := base) D.d17 T gNpr gNpl
  have gWo := ok_wo (P := P) (w := w) (base := base) D.d28 T gPer gKept
  have gFr := ok_fr (P := P) (w := w) (base := base) D.d29 T
  have gFcd := ok_fcd (P := P) (w := w) (base := base) D.d33 T gPer gKept gStg
  have gWof := ok_wof (P := P) (w := w) (base := base) D.d32 T gWo gFr gFcd
  have gWor := ok_wor (P := P) (w := w) (base := base) D.d31 T gNpr gNpe gWof
  have gRng := ok_rng (P := P) (w := w) (base := base) D.d34 T gNbo gNpe gCst gWo gFr gFcd
  have gPls := ok_pls (P := P) (w := w) (base := base) D.d25 T gPer gFil gLst
  have gLpl := ok_lpl (P := P) (w := w) (base := base) D.d26 T gNpr gPls
  have gTk := ok_tk (P := P) (w := w) (base := base) D.d36 T
  have gPk := ok_pk (P := P) (w := w) (base := base) D.d37 T gTk
  have gEn := ok_en (P := P) (w := w) (base := base) D.d38 T gTk
  have gSt := ok_st (P := P) (w := w) (base := base) D.d39 T gTk
  have gPr := ok_pr (P := P) (w := w) (base := base) D.d40 T gTk gPk gEn gSt
  exact ok_law F T gTk gPr gLpl gWor gRng
theorem fin {P : Program} {w : World} {K : PySem.W.Frag} {h : Heap} {mg : Str → Option Value} {fa f : Addr} {od an : Option Addr} {sl : Array (Option Value)} {oc kV dc pm cd ct : Value} (X : K.In h) (G : h.Ns mainGlobals mg) (hfa : mg "law" = some (.ref fa))
    (a : PySem.W.nsIn K mainGlobals "law" = some (some (.ref f))) (l : K.lookup f = some ⟨oc, od, .func (PySem.W.fnOf "law" "law" (defArgs sLaw) (defBody sLaw) (defScope sLaw) .none kV dc pm an cd ct), sl⟩) (c : PySem.W.codeIn K cd "law" = true) (k : PySem.W.keepIn K (.ref f) = true) (D : Defs K mg) (T : Bts mg) :
    ∃ fd : FuncData, (∀ (s : Shared) (v : Value), BindsTo s fd ⟨[v], []⟩ [("_law_script", v)]) ∧ ∀ base : Heap, K.In base → base.Ns mainGlobals mg → FnOk P w K mg base CX0 7 fa fd ["_law_script"] (spLaw K) := by
  have e := hfa.symm.trans (PySem.W.mg_of X G a)
  cases e
  exact ⟨PySem.W.fnOf "law" "law" (defArgs sLaw) (defBody sLaw) (defScope sLaw) .none kV dc pm an cd ct, fun s v => .of_eq rfl, fun base _ _ => all_ok (fun_mk l c k) D T⟩
end LW

open PySem PySem.W PyProof.Rows
set_option maxHeartbeats 0
open_top hd for PySem.Challenge.rw_lotplans_k89_whole_worths_and_ranges

open PySem PySem.W PyProof.Rows
set_option maxHeartbeats 0
theorem PySem.Challenge.cw_lotplans_k89_whole_worths_and_ranges_holds : PySem.Challenge.rw_lotplans_k89_whole_worths_and_ranges.Holds := by
  refine hd ?_
  k_fill
  refine L2.walk_of (l := PySem.Challenge.rw_lotplans_k89_whole_worths_and_ranges) (n := 63) (k := 7) (x := "_law_script") (CX := fun _ => L2.CX0) (sp := fun w => LW.spLaw _) rfl (by decide) rfl ⟨rfl, by decide, by decide⟩ (fun w h Y => PySem.W.kIn_of Y) ?F (fun _ _ a ns hl _ hS => ⟨a, ns, rfl, hS, hl, fun _ => rfl⟩) (fun _ _ _ _ _ h => h)
  case F =>
    intro w mg fa h KX G hmg
    refine' LW.fin KX G hmg ?a ?l ?c ?k ?D ?T
    (case a => k_is); (case l => k_is); (case c => k_is); (case k => k_is)
    case D =>
      refine ⟨?d7, ?d8, ?d12, ?d13, ?d14, ?d15, ?d16, ?d17, ?d18, ?d19, ?d22, ?d23, ?d24, ?d25, ?d26, ?d28, ?d29, ?d30, ?d31, ?d32, ?d33, ?d34, ?d36, ?d37, ?d38, ?d39, ?d40⟩
      case d7 =>
        refine' LW.def_mk KX G ?a ?l ?c ?k
        (case a => k_is); (case l => k_is); (case c => k_is); (case k => k_is)
      case d8 =>
        refine' LW.def_mk KX G ?a ?l ?c ?k
        (case a => k_is); (case l => k_is); (case c => k_is); (case k => k_is)
      case d12 =>
        refine' LW.def_mk KX G ?a ?l ?c ?k
        (case a => k_is); (case l => k_is); (case c => k_is); (case k => k_is)
      case d13 =>
        refine' LW.def_mk KX G ?a ?l ?c ?k
        (case a => k_is); (case l => k_is); (case c => k_is); (case k => k_is)
      case d14 =>
        refine' LW.def_mk KX G ?a ?l ?c ?k
        (case a => k_is); (case l => k_is); (case c => k_is); (case k => k_is)
      case d15 =>
        refine' LW.def_mk KX G ?a ?l ?c ?k
        (case a => k_is); (case l => k_is); (case c => k_is); (case k => k_is)
      case d16 =>
        refine' LW.def_mk KX G ?a ?l ?c ?k
        (case a => k_is); (case l => k_is); (case c => k_is); (case k => k_is)
      case d17 =>
        refine' LW.def_mk KX G ?a ?l ?c ?k
        (case a => k_is); (case l => k_is); (case c => k_is); (case k => k_is)
      case d18 =>
        refine' LW.def_mk KX G ?a ?l ?c ?k
        (case a => k_is); (case l => k_is); (case c => k_is); (case k => k_is)
      case d19 =>
        refine' LW.def_mk KX G ?a ?l ?c ?k
        (case a => k_is); (case l => k_is); (case c => k_is); (case k => k_is)
      case d22 =>
        refine' LW.def_mk KX G ?a ?l ?c ?k
        (case a => k_is); (case l => k_is); (case c => k_is); (case k => k_is)
      case d23 =>
        refine' LW.def_mk KX G ?a ?l ?c ?k
        (case a => k_is); (case l => k_is); (case c => k_is); (case k => k_is)
      case d24 =>
        refine' LW.def_mk KX G ?a ?l ?c ?k
        (case a => k_is); (case l => k_is); (case c => k_is); (case k => k_is)
      case d25 =>
        refine' LW.def_mk KX G ?a ?l ?c ?k
        (case a => k_is); (case l => k_is); (case c => k_is); (case k => k_is)
      case d26 =>
        refine' LW.def_mk KX G ?a ?l ?c ?k
        (case a => k_is); (case l => k_is); (case c => k_is); (case k => k_is)
      case d28 =>
        refine' LW.def_mk KX G ?a ?l ?c ?k
        (case a => k_is); (case l => k_is); (case c => k_is); (case k => k_is)
      case d29 =>
        refine' LW.def_mk KX G ?a ?l ?c ?k
        (case a => k_is); (case l => k_is); (case c => k_is); (case k => k_is)
      case d30 =>
        refine' LW.def_mk KX G ?a ?l ?c ?k
        (case a => k_is); (case l => k_is); (case c => k_is); (case k => k_is)
      case d31 =>
        refine' LW.def_mk KX G ?a ?l ?c ?k
        (case a => k_is); (case l => k_is); (case c => k_is); (case k => k_is)
      case d32 =>
        refine' LW.def_mk KX G ?a ?l ?c ?k
        (case a => k_is); (case l => k_is); (case c => k_is); (case k => k_is)
      case d33 =>
        refine' LW.def_mk KX G ?a ?l ?c ?k
        (case a => k_is); (case l => k_is); (case c => k_is); (case k => k_is)
      case d34 =>
        refine' LW.def_mk KX G ?a ?l ?c ?k
        (case a => k_is); (case l => k_is); (case c => k_is); (case k => k_is)
      case d36 =>
        refine' LW.def_mk KX G ?a ?l ?c ?k
        (case a => k_is); (case l => k_is); (case c => k_is); (case k => k_is)
      case d37 =>
        refine' LW.def_mk KX G ?a ?l ?c ?k
        (case a => k_is); (case l => k_is); (case c => k_is); (case k => k_is)
      case d38 =>
        refine' LW.def_mk KX G ?a ?l ?c ?k
        (case a => k_is); (case l => k_is); (case c => k_is); (case k => k_is)
      case d39 =>
        refine' LW.def_mk KX G ?a ?l ?c ?k
        (case a => k_is); (case l => k_is); (case c => k_is); (case k => k_is)
      case d40 =>
        refine' LW.def_mk KX G ?a ?l ?c ?k
        (case a => k_is); (case l => k_is); (case c => k_is); (case k => k_is)
    case T =>
      have y0 : mg "len" = none := by
        refine' PySem.W.mg_none_of KX G ?a
        (case a => k_is)
      have y1 : mg "sum" = none := by
        refine' PySem.W.mg_none_of KX G ?a
        (case a => k_is)
      have y2 : mg "range" = none := by
        refine' PySem.W.mg_none_of KX G ?a
        (case a => k_is)
      have y3 : mg "min" = none := by
        refine' PySem.W.mg_none_of KX G ?a
        (case a => k_is)
      have y4 : mg "max" = none := by
        refine' PySem.W.mg_none_of KX G ?a
        (case a => k_is)
      have y5 : mg "tuple" = none := by
        refine' PySem.W.mg_none_of KX G ?a
        (case a => k_is)
      have y6 : mg "all" = none := by
        refine' PySem.W.mg_none_of KX G ?a
        (case a => k_is)
      have y7 : mg "any" = none := by
        refine' PySem.W.mg_none_of KX G ?a
        (case a => k_is)
      have y8 : mg "isinstance" = none := by
        refine' PySem.W.mg_none_of KX G ?a
        (case a => k_is)
      have y9 : mg "enumerate" = none := by
        refine' PySem.W.mg_none_of KX G ?a
        (case a => k_is)
      have y10 : mg "zip" = none := by
        refine' PySem.W.mg_none_of KX G ?a
        (case a => k_is)
      have y11 : mg "sorted" = none := by
        refine' PySem.W.mg_none_of KX G ?a
        (case a => k_is)
      have y12 : mg "int" = none := by
        refine' PySem.W.mg_none_of KX G ?a
        (case a => k_is)
      have y13 : mg "bool" = none := by
        refine' PySem.W.mg_none_of KX G ?a
        (case a => k_is)
      have z0 : ∃ t, mg "MOST_PERIODS" = some (.int 12 t) := by
        refine' LW.num_mk KX G ?a
        (case a => k_is)
      have z1 : ∃ t, mg "MOST_ENTRY" = some (.int 999 t) := by
        refine' LW.num_mk KX G ?a
        (case a => k_is)
      have z2 : ∃ t, mg "MOST_LISTED" = some (.int 500 t) := by
        refine' LW.num_mk KX G ?a
        (case a => k_is)
      exact ⟨y0, y1, y2, y3, y4, y5, y6, y7, y8, y9, y10, y11, y12, y13, z0, z1, z2⟩
