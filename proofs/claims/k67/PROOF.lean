import PyProof.Rows.All
import Wide.All
import OpenK.AllK
import Wide.FinOn
import HandS.ForMost
import HandS.ForExc
import HandS.Zip
import HandS.Wide
import HandS.TupAny
import HandS.SortRule
import HandS.SortInts
import HandS.Strs
import HandS.ExcInit
import HandS.ExcIs
import HandS.ExcField
import HandS.Walk
import HandS.Style
import HandS.IsInst
import HandS.Conv
import HandS.More
import KE.GoesMore
import KE.GoesEnum
import PySem.Challenge.RW_benchdays_k67_whole_an_n_of_wishes
import KE.KExcIs
import HandS.ReCall
set_option Elab.async false
set_option linter.all false
set_option maxRecDepth 100000
/-! Plain mathematics of k67: sums, least sums, the bound that prices show. No program in sight. -/
namespace NW
section
variable {R : Type} [Lean.Grind.CommRing R]
def sm {α : Type} (f : α → R) : List α → R
  | [] => 0
  | x :: r => f x + sm f r
variable {α β : Type} {f g : α → R}
theorem sm_nil : sm f [] = 0 := rfl
theorem sm_cons (x : α) (r : List α) : sm f (x :: r) = f x + sm f r := rfl
theorem sm_append : ∀ (a b : List α), sm f (a ++ b) = sm f a + sm f b
  | [], b => by simp only [List.nil_append, sm]; grind
  | x :: a, b => by
    have := sm_append a b
    simp only [List.cons_append, sm]; grind
theorem sm_perm {a b : List α} (h : a.Perm b) : sm f a = sm f b := by
  induction h with
  | nil => rfl
  | cons x _ ih => simp only [sm]; rw [ih]
  | swap x y l => simp only [sm]; grind
  | trans _ _ h1 h2 => exact h1.trans h2
theorem sm_congr : ∀ {l : List α}, (∀ x ∈ l, f x = g x) → sm f l = sm g l
  | [], _ => rfl
  | x :: r, h => by
    simp only [sm]
    rw [h x List.mem_cons_self, sm_congr fun y hy => h y (List.mem_cons_of_mem _ hy)]
theorem sm_zero : ∀ {l : List α}, (∀ x ∈ l, f x = 0) → sm f l = 0
  | [], _ => rfl
  | x :: r, h => by
    simp only [sm]
    rw [h x List.mem_cons_self, sm_zero fun y hy => h y (List.mem_cons_of_mem _ hy)]
    grind
theorem sm_add : ∀ (l : List α), sm (fun x => f x + g x) l = sm f l + sm g l
  | [] => by simp only [sm]; grind
  | x :: r => by have := sm_add r; simp only [sm]; grind
theorem sm_mul (c : R) : ∀ (l : List α), sm (fun x => c * f x) l = c * sm f l
  | [] => by simp only [sm]; grind
  | x :: r => by have := sm_mul c r; simp only [sm]; grind
theorem sm_sub : ∀ (l : List α), sm (fun x => f x - g x) l = sm f l - sm g l
  | [] => by simp only [sm]; grind
  | x :: r => by have := sm_sub r; simp only [sm]; grind
theorem sm_flatten {f : α → R} : ∀ (l : List (List α)), sm f l.flatten = sm (sm f) l
  | [] => rfl
  | x :: r => by rw [List.flatten_cons, sm_append, sm_flatten r]; rfl
theorem sm_snoc (x : α) (r : List α) : sm f (r ++ [x]) = sm f r + f x := by
  rw [sm_append]; simp only [sm]; grind
end
theorem sm_le {α : Type} {f g : α → Int} : ∀ {l : List α}, (∀ x ∈ l, f x ≤ g x) → sm f l ≤ sm g l
  | [], _ => Int.le_refl _
  | x :: r, h => by
    have h1 := h x List.mem_cons_self
    have h2 := sm_le fun y hy => h y (List.mem_cons_of_mem _ hy)
    simp only [sm]; omega
theorem sm_nonneg {α : Type} {f : α → Int} : ∀ {l : List α}, (∀ x ∈ l, 0 ≤ f x) → 0 ≤ sm f l
  | [], _ => Int.le_refl _
  | x :: r, h => by
    have h1 := h x List.mem_cons_self
    have h2 := sm_nonneg fun y hy => h y (List.mem_cons_of_mem _ hy)
    simp only [sm]; omega

/-! ### what an order costs; pairs -/
def cost (p T : Nat → Int) (e : Int) : List Nat → Int
  | [] => 0
  | j :: r => T j * (e + p j) + cost p T (e + p j) r
def pairs (M : Nat → Nat → Int) : List Nat → Int
  | [] => 0
  | x :: r => sm (M x) r + pairs M r
def MM (p T : Nat → Int) (i j : Nat) : Int := min (p i * T j) (p j * T i)
theorem MM_comm (p T : Nat → Int) (i j : Nat) : MM p T i j = MM p T j i := by unfold MM; exact Int.min_comm _ _
theorem pairs_perm {M : Nat → Nat → Int} (hM : ∀ i j, M i j = M j i) {a b : List Nat} (h : a.Perm b) : pairs M a = pairs M b := by
  induction h with
  | nil => rfl
  | cons x h ih => simp only [pairs]; rw [ih, sm_perm h]
  | swap x y l => simp only [pairs, sm]; rw [hM y x]; omega
  | trans _ _ h1 h2 => exact h1.trans h2
theorem pairs_snoc {M : Nat → Nat → Int} (x : Nat) : ∀ (l : List Nat), pairs M (l ++ [x]) = pairs M l + sm (fun y => M y x) l
  | [] => by simp [pairs, sm]
  | y :: r => by
    have := pairs_snoc (M := M) x r
    simp only [List.cons_append, pairs, sm_append, sm]; omega
/-- the least sum as the program reckons it -/
def ls (p T : Nat → Int) (c : Int) : Nat → Int
  | 0 => 0
  | n + 1 => ls p T c n + T n * (c + p n) + sm (fun i => MM p T i n) (List.range n)
theorem ls_eq (p T : Nat → Int) (c : Int) : ∀ n, ls p T c n = sm (fun j => T j * (c + p j)) (List.range n) + pairs (MM p T) (List.range n)
  | 0 => rfl
  | n + 1 => by
    rw [List.range_succ, pairs_snoc, sm_snoc]
    simp only [ls]
    rw [ls_eq p T c n]; omega
/-- what an order costs, pair by pair: p i * T j where i is ahead of j -/
theorem cost_pairs (p T : Nat → Int) : ∀ (l : List Nat) (e : Int), cost p T e l = sm (fun j => T j * (e + p j)) l + pairs (fun i j => p i * T j) l
  | [], e => rfl
  | x :: r, e => by
    simp only [cost, pairs, sm]
    rw [cost_pairs p T r]
    have h : sm (fun j => T j * (e + p x + p j)) r = sm (fun j => T j * (e + p j)) r + sm (fun j => p x * T j) r := by
      rw [← sm_add]; exact sm_congr fun j _ => by grind
    rw [h]; omega
theorem pairs_le {M N : Nat → Nat → Int} : ∀ {l : List Nat}, (∀ i ∈ l, ∀ j ∈ l, M i j ≤ N i j) → pairs M l ≤ pairs N l
  | [], _ => Int.le_refl _
  | x :: r, h => by
    have h1 : sm (M x) r ≤ sm (N x) r := sm_le fun y hy => h x List.mem_cons_self y (List.mem_cons_of_mem _ hy)
    have h2 := pairs_le (M := M) (N := N) (l := r) fun i hi j hj => h i (List.mem_cons_of_mem _ hi) j (List.mem_cons_of_mem _ hj)
    simp only [pairs]; omega
theorem pairs_eq {M N : Nat → Nat → Int} : ∀ {l : List Nat}, l.Pairwise (fun i j => M i j = N i j) → pairs M l = pairs N l
  | [], _ => rfl
  | x :: r, h => by
    rw [List.pairwise_cons] at h
    simp only [pairs]
    rw [pairs_eq h.2, sm_congr h.1]
/-- no order costs less than the least sum, whatever the weights -/
theorem ls_le_cost {p T : Nat → Int} {c : Int} {n : Nat} {o : List Nat} (h : o.Perm (List.range n)) : ls p T c n ≤ cost p T c o := by
  rw [ls_eq, cost_pairs, ← sm_perm h, ← pairs_perm (MM_comm p T) h]
  have : pairs (MM p T) o ≤ pairs (fun i j => p i * T j) o := pairs_le fun i _ j _ => Int.min_le_left _ _
  omega
theorem ls_eq_cost {p T : Nat → Int} {c : Int} {n : Nat} {o : List Nat} (h : o.Perm (List.range n)) (hs : o.Pairwise fun i j => p i * T j ≤ p j * T i) : ls p T c n = cost p T c o := by
  rw [ls_eq, cost_pairs, ← sm_perm h, ← pairs_perm (MM_comm p T) h]
  congr 1
  exact pairs_eq (hs.imp fun h => Int.min_eq_left h)

/-! ### ends, and turned weights -/
/-- when a work of an order ends -/
def fin (p : Nat → Int) (e : Int) : List Nat → Nat → Int
  | [], _ => 0
  | x :: r, j => if x = j then e + p x else fin p (e + p x) r j
theorem fin_append {p : Nat → Int} {j : Nat} : ∀ {a : List Nat} (b : List Nat) (e : Int), j ∉ a → fin p e (a ++ b) j = fin p (e + sm p a) b j
  | [], b, e, _ => by simp [sm]
  | x :: a, b, e, h => by
    have hx : ¬ x = j := fun z => h (z ▸ List.mem_cons_self)
    simp only [List.cons_append, fin, if_neg hx, sm]
    rw [fin_append b _ fun q => h (List.mem_cons_of_mem _ q)]
    congr 1; omega
theorem fin_head {p : Nat → Int} {j : Nat} {r : List Nat} {e : Int} : fin p e (j :: r) j = e + p j := by simp [fin]
/-- one work's weight is changed -/
theorem cost_add {p T T' : Nat → Int} {a : Nat} {x : Int} : ∀ {o : List Nat} {e : Int}, o.Nodup → (∀ j, j ≠ a → T' j = T j) → T' a = T a + x → cost p T' e o = cost p T e o + (if a ∈ o then x * fin p e o a else 0)
  | [], e, _, _, _ => by simp [cost]
  | y :: r, e, hn, h1, h2 => by
    rw [List.nodup_cons] at hn
    have ih := cost_add (p := p) (T := T) (T' := T') (a := a) (x := x) (e := e + p y) hn.2 h1 h2
    simp only [cost]
    rw [ih]
    by_cases hy : y = a
    · subst hy
      rw [if_neg hn.1, if_pos List.mem_cons_self, fin_head, h2]; grind
    · rw [h1 y hy]
      by_cases hr : a ∈ r
      · rw [if_pos hr, if_pos (List.mem_cons_of_mem _ hr)]
        simp only [fin, if_neg hy]; omega
      · have : a ∉ y :: r := by simp only [List.mem_cons, not_or]; exact ⟨fun z => hy z.symm, hr⟩
        rw [if_neg hr, if_neg this]; omega
/-- one entry of prices -/
structure Ent where
  a : Nat
  S : List Nat
  t : Int
  b : Int
def gain (p : Nat → Int) (S : List Nat) : Int := sm (fun j => p j * p j) S + pairs (fun i j => p i * p j) S
/-- what an entry adds to a work's weight, by the price q -/
def con (p : Nat → Int) (a : Nat) (S : List Nat) (q : Int) (j : Nat) : Int := q * ((if a = j then sm p S else 0) - (S.count j : Int) * p j)
/-- how far the works of S end behind a -/
def far (p : Nat → Int) (c : Int) (o : List Nat) (a : Nat) (S : List Nat) : Int := sm (fun b => p b * (fin p c o b - fin p c o a)) S
theorem con_cons {p : Nat → Int} {a b : Nat} {S : List Nat} {q : Int} {j : Nat} : con p a (b :: S) q j = con p a S q j + (if j = a then q * p b else 0) - (if j = b then q * p b else 0) := by
  unfold con
  simp only [sm, List.count_cons]
  by_cases h1 : a = j
  · subst h1
    by_cases h2 : a = b
    · subst h2; simp; grind
    · have : (b == a) = false := by simpa using fun z : b = a => h2 z.symm
      simp [h2, this]; grind
  · have h1' : ¬ j = a := fun z => h1 z.symm
    by_cases h2 : j = b
    · subst h2; simp [h1, h1']; grind
    · have : (b == j) = false := by simpa using fun z : b = j => h2 z.symm
      simp [h1, h1', h2, this]
theorem cost_con {p : Nat → Int} {a : Nat} {q : Int} {o : List Nat} {c : Int} (hn : o.Nodup) (ha : a ∈ o) : ∀ {S : List Nat} {T : Nat → Int}, (∀ b ∈ S, b ∈ o) → cost p (fun j => T j + con p a S q j) c o = cost p T c o - q * far p c o a S
  | [], T, _ => by
    have : (fun j => T j + con p a [] q j) = T := by funext j; simp [con, sm]
    rw [this]; simp [far, sm]
  | b :: S, T, hS => by
    have ih := cost_con (p := p) (a := a) (q := q) (c := c) hn ha (S := S) (T := T) fun y hy => hS y (List.mem_cons_of_mem _ hy)
    have s1 := cost_add (p := p) (T := fun j => T j + con p a S q j) (T' := fun j => (T j + con p a S q j) + (if j = a then q * p b else 0)) (a := a) (x := q * p b) (e := c) hn (fun j hj => by simp [hj]) (by simp)
    have s2 := cost_add (p := p) (T := fun j => (T j + con p a S q j) + (if j = a then q * p b else 0)) (T' := fun j => T j + con p a (b :: S) q j) (a := b) (x := - (q * p b)) (e := c) hn (fun j hj => by simp only [con_cons, if_neg hj]; omega) (by simp only [con_cons, if_pos]; omega)
    rw [s2, s1, ih, if_pos ha, if_pos (hS b List.mem_cons_self)]
    simp only [far, sm]; grind
/-- the turned weights of some entries, each with its price q -/
def tur (p : Nat → Int) (q : Ent → Int) (es : List Ent) (j : Nat) : Int := sm (fun e => con p e.a e.S (q e) j) es
theorem cost_tur {p w : Nat → Int} {q : Ent → Int} {o : List Nat} {c : Int} (hn : o.Nodup) : ∀ {es : List Ent}, (∀ e ∈ es, e.a ∈ o ∧ ∀ b ∈ e.S, b ∈ o) → cost p (fun j => w j + tur p q es j) c o = cost p w c o - sm (fun e => q e * far p c o e.a e.S) es
  | [], _ => by
    have : (fun j => w j + tur p q [] j) = w := by funext j; simp [tur, sm]
    rw [this]; simp [sm]
  | e :: es, h => by
    have ih := cost_tur (p := p) (w := w) (q := q) (c := c) hn (es := es) fun y hy => h y (List.mem_cons_of_mem _ hy)
    have he := h e List.mem_cons_self
    have s := cost_con (p := p) (q := q e) (c := c) hn he.1 (S := e.S) (T := fun j => w j + tur p q es j) he.2
    have : (fun j => w j + tur p q (e :: es) j) = fun j => (w j + tur p q es j) + con p e.a e.S (q e) j := by
      funext j; simp only [tur, sm]; omega
    rw [this, s, ih]
    simp only [sm]; omega
theorem cost_mul {p w : Nat → Int} {s : Int} : ∀ (o : List Nat) (c : Int), cost p (fun j => s * w j) c o = s * cost p w c o
  | [], c => by simp [cost]
  | x :: r, c => by
    have := cost_mul (p := p) (w := w) (s := s) r (c + p x)
    simp only [cost]; rw [this]; grind

/-! ### the gain -/
theorem gain_perm {p : Nat → Int} {a b : List Nat} (h : a.Perm b) : gain p a = gain p b := by
  unfold gain; rw [sm_perm h, pairs_perm (fun i j => Int.mul_comm _ _) h]
theorem gain_cons {p : Nat → Int} (x : Nat) (r : List Nat) : gain p (x :: r) = p x * p x + p x * sm p r + gain p r := by
  unfold gain; simp only [sm, pairs]
  rw [sm_mul]; omega
/-- straight behind e: the works of l, in their order -/
theorem far_line {p : Nat → Int} : ∀ (l rest : List Nat) (e e0 : Int), (l ++ rest).Nodup → sm (fun b => p b * (fin p e (l ++ rest) b - e0)) l = (e - e0) * sm p l + gain p l
  | [], rest, e, e0, _ => by simp [sm, gain, pairs]
  | x :: r, rest, e, e0, h => by
    rw [List.cons_append, List.nodup_cons] at h
    have ih := far_line (p := p) r rest (e + p x) e0 h.2
    have c : sm (fun b => p b * (fin p e (x :: (r ++ rest)) b - e0)) r = sm (fun b => p b * (fin p (e + p x) (r ++ rest) b - e0)) r := sm_congr fun b hb => by
      have hx : ¬ x = b := fun z => h.1 (List.mem_append_left _ (z ▸ hb))
      simp only [fin, if_neg hx]
    rw [List.cons_append]
    simp only [sm]
    rw [c, ih, fin_head, gain_cons]; grind
/-- behind e, somewhere: no less -/
theorem far_some {p : Nat → Int} (hp : ∀ j, 0 ≤ p j) (S : List Nat) : ∀ (l : List Nat) (e e0 : Int), l.Nodup → (e - e0) * sm p (l.filter fun j => decide (j ∈ S)) + gain p (l.filter fun j => decide (j ∈ S)) ≤ sm (fun b => p b * (fin p e l b - e0)) (l.filter fun j => decide (j ∈ S))
  | [], e, e0, _ => by simp [sm, gain, pairs]
  | x :: r, e, e0, h => by
    rw [List.nodup_cons] at h
    have ih := far_some hp S r (e + p x) e0 h.2
    have c : sm (fun b => p b * (fin p e (x :: r) b - e0)) (r.filter fun j => decide (j ∈ S)) = sm (fun b => p b * (fin p (e + p x) r b - e0)) (r.filter fun j => decide (j ∈ S)) := sm_congr fun b hb => by
      have hb' : b ∈ r := (List.mem_filter.mp hb).1
      have hx : ¬ x = b := fun z => h.1 (z ▸ hb')
      simp only [fin, if_neg hx]
    have h0 : 0 ≤ p x * sm p (r.filter fun j => decide (j ∈ S)) := Int.mul_nonneg (hp x) (sm_nonneg fun y _ => hp y)
    by_cases hx : x ∈ S
    · rw [List.filter_cons_of_pos (by simpa using hx)]
      simp only [sm]
      rw [c, fin_head, gain_cons]; grind
    · rw [List.filter_cons_of_neg (by simpa using hx)]
      rw [c]; grind
theorem far_ge {p : Nat → Int} (hp : ∀ j, 0 ≤ p j) {o pre post S : List Nat} {a : Nat} {c : Int} (ho : o = pre ++ a :: post) (hn : o.Nodup) (hS : S.Nodup) (hb : ∀ b ∈ S, b ∈ post) : gain p S ≤ far p c o a S := by
  subst ho
  have hn' := List.nodup_append.mp hn
  have hap : a ∉ pre := fun z => hn'.2.2 a z a List.mem_cons_self rfl
  have hpn : post.Nodup := (List.nodup_cons.mp hn'.2.1).2
  have hanp : a ∉ post := (List.nodup_cons.mp hn'.2.1).1
  have fa : fin p c (pre ++ a :: post) a = c + sm p pre + p a := by rw [fin_append _ _ hap, fin_head]
  have pm : S.Perm (post.filter fun j => decide (j ∈ S)) := by
    refine (List.perm_ext_iff_of_nodup hS (hpn.filter _)).mpr fun x => ?_
    rw [List.mem_filter]
    exact ⟨fun h => ⟨hb x h, by simpa using h⟩, fun h => by simpa using h.2⟩
  have q := far_some hp S post (c + sm p pre + p a) (c + sm p pre + p a) hpn
  have z : c + sm p pre + p a - (c + sm p pre + p a) = 0 := by omega
  rw [z, Int.zero_mul, Int.zero_add] at q
  unfold far
  rw [gain_perm pm, sm_perm pm]
  refine Int.le_trans q (Int.le_of_eq (sm_congr fun b hb => ?_))
  have hb' : b ∈ post := (List.mem_filter.mp hb).1
  have hbp : b ∉ pre := fun z => hn'.2.2 b z b (List.mem_cons_of_mem _ hb') rfl
  have hx : ¬ a = b := fun z => hanp (z ▸ hb')
  rw [fin_append _ _ hbp, fa]
  simp only [fin, if_neg hx]
theorem far_eq {p : Nat → Int} {o pre chunk post S : List Nat} {a : Nat} {c : Int} (ho : o = pre ++ a :: (chunk ++ post)) (hn : o.Nodup) (hS : S.Perm chunk) : far p c o a S = gain p S := by
  subst ho
  have hn' := List.nodup_append.mp hn
  have hap : a ∉ pre := fun z => hn'.2.2 a z a List.mem_cons_self rfl
  have hpn : (chunk ++ post).Nodup := (List.nodup_cons.mp hn'.2.1).2
  have hanp : a ∉ chunk ++ post := (List.nodup_cons.mp hn'.2.1).1
  have fa : fin p c (pre ++ a :: (chunk ++ post)) a = c + sm p pre + p a := by rw [fin_append _ _ hap, fin_head]
  have q := far_line (p := p) chunk post (c + sm p pre + p a) (c + sm p pre + p a) hpn
  have z : c + sm p pre + p a - (c + sm p pre + p a) = 0 := by omega
  rw [z, Int.zero_mul, Int.zero_add] at q
  unfold far
  rw [gain_perm hS, sm_perm hS, ← q]
  refine sm_congr fun b hb => ?_
  have hb' : b ∈ chunk ++ post := List.mem_append_left _ hb
  have hbp : b ∉ pre := fun z => hn'.2.2 b z b (List.mem_cons_of_mem _ hb') rfl
  have hx : ¬ a = b := fun z => hanp (z ▸ hb')
  rw [fin_append _ _ hbp, fa]
  simp only [fin, if_neg hx]

/-- what prices show, sh times -/
def shown (p w : Nat → Int) (c : Int) (n : Nat) (sh : Int) (q : Ent → Int) (es : List Ent) : Int :=
  sm (fun e => q e * gain p e.S) es + ls p (fun j => sh * w j + tur p q es j) c n
/-- THE BOUND: no order in which each entry's works stand behind its a costs less -/
theorem shown_le {p w : Nat → Int} {c sh : Int} {n : Nat} {q : Ent → Int} {es : List Ent} {o : List Nat} (hp : ∀ j, 0 ≤ p j) (ho : o.Perm (List.range n))
    (h : ∀ e ∈ es, 0 ≤ q e ∧ e.S.Nodup ∧ ∃ pre post, o = pre ++ e.a :: post ∧ ∀ b ∈ e.S, b ∈ post) : shown p w c n sh q es ≤ sh * cost p w c o := by
  have hn : o.Nodup := ho.nodup_iff.mpr List.nodup_range
  have s := cost_tur (p := p) (w := fun j => sh * w j) (q := q) (c := c) hn (es := es) fun e he => by
    obtain ⟨_, _, pre, post, rfl, hb⟩ := h e he
    exact ⟨by simp, fun b hb' => List.mem_append_right _ (List.mem_cons_of_mem _ (hb b hb'))⟩
  have l := ls_le_cost (p := p) (T := fun j => sh * w j + tur p q es j) (c := c) ho
  have g : sm (fun e => q e * gain p e.S) es ≤ sm (fun e => q e * far p c o e.a e.S) es := sm_le fun e he => by
    obtain ⟨h0, hS, pre, post, e1, hb⟩ := h e he
    exact Int.mul_le_mul_of_nonneg_left (far_ge hp e1 hn hS hb) h0
  rw [s, cost_mul] at l
  unfold shown; omega
/-- .. and just that, where each entry's works stand straight behind its a and the order goes by turned ratios -/
theorem shown_eq {p w : Nat → Int} {c sh : Int} {n : Nat} {q : Ent → Int} {es : List Ent} {o : List Nat} (ho : o.Perm (List.range n))
    (h : ∀ e ∈ es, ∃ pre chunk post, o = pre ++ e.a :: (chunk ++ post) ∧ e.S.Perm chunk)
    (hs : o.Pairwise fun i j => p i * (sh * w j + tur p q es j) ≤ p j * (sh * w i + tur p q es i)) : shown p w c n sh q es = sh * cost p w c o := by
  have hn : o.Nodup := ho.nodup_iff.mpr List.nodup_range
  have s := cost_tur (p := p) (w := fun j => sh * w j) (q := q) (c := c) hn (es := es) fun e he => by
    obtain ⟨pre, chunk, post, rfl, hb⟩ := h e he
    exact ⟨by simp, fun b hb' => List.mem_append_right _ (List.mem_cons_of_mem _ (List.mem_append_left _ (hb.mem_iff.mp hb')))⟩
  have l := ls_eq_cost (p := p) (T := fun j => sh * w j + tur p q es j) (c := c) ho hs
  have g : sm (fun e => q e * gain p e.S) es = sm (fun e => q e * far p c o e.a e.S) es := sm_congr fun e he => by
    obtain ⟨pre, chunk, post, e1, hb⟩ := h e he
    rw [far_eq e1 hn hb]
  rw [s, cost_mul] at l
  unfold shown; omega
end NW
/-! Plain mathematics of k67, second part: joined blocks of a forest and their prices. -/
namespace NW
/-! ### ratios -/
def rp (p : Nat → Int) (j : Nat) : Rat := (p j : Rat)
def rho (p w : Nat → Int) (B : List Nat) : Rat := sm (rp w) B / sm (rp p) B
def val (e : Ent) : Rat := (e.t : Rat) / (e.b : Rat)
def ctr1 (p : Nat → Int) (e : Ent) (j : Nat) : Rat := val e * ((if e.a = j then sm (rp p) e.S else 0) - ((e.S.count j : Nat) : Rat) * rp p j)
def ctr (p : Nat → Int) (es : List Ent) (j : Nat) : Rat := sm (fun e => ctr1 p e j) es
theorem ctr_append {p : Nat → Int} (a b : List Ent) (j : Nat) : ctr p (a ++ b) j = ctr p a j + ctr p b j := sm_append a b
theorem sm_pos {p : Nat → Int} (hp : ∀ j, 0 < p j) : ∀ {B : List Nat}, B ≠ [] → 0 < sm (rp p) B
  | [], h => absurd rfl h
  | [x], _ => by
    have : (0 : Rat) < (p x : Rat) := by exact_mod_cast hp x
    simp only [sm, rp]; grind
  | x :: y :: r, _ => by
    have h1 : (0 : Rat) < (p x : Rat) := by exact_mod_cast hp x
    have := sm_pos hp (B := y :: r) (by simp)
    simp only [sm, rp] at *; grind
theorem rho_mul {p w : Nat → Int} (hp : ∀ j, 0 < p j) {B : List Nat} (h : B ≠ []) : rho p w B * sm (rp p) B = sm (rp w) B := by
  have := sm_pos hp h
  unfold rho; grind
/-- what one entry of a row's prices is -/
structure PaidAt (p w : Nat → Int) (a : Nat) (T : List (List Nat)) (B : List Nat) (k : Nat) (e : Ent) : Prop where
  a : e.a = a
  S : e.S.Perm (T.take (k + 1)).flatten
  s : e.S.Pairwise (· < ·)
  b0 : 0 < e.b
  g : Int.gcd e.t e.b = 1
  tb : e.t < 2 ^ 59
  bb : e.b < 2 ^ 59
  v : val e = rho p w ((T ++ [B]).getD k []) - rho p w ((T ++ [B]).getD (k + 1) [])
structure PaidOk (p w : Nat → Int) (a : Nat) (T : List (List Nat)) (B : List Nat) (es : List Ent) : Prop where
  len : es.length = T.length
  at_ : ∀ k (h : k < es.length), PaidAt p w a T B k es[k]
theorem take_flat {α : Type} {T : List (List α)} {k : Nat} (h : k < T.length) : (T.take (k + 1)).flatten = (T.take k).flatten ++ T[k] := by
  rw [List.take_succ_eq_append_getElem h, List.flatten_append]; simp
theorem paid_sum {p w : Nat → Int} (hp : ∀ j, 0 < p j) {a : Nat} {T : List (List Nat)} {B : List Nat} {es : List Ent} (h : PaidOk p w a T B es) (hne : ∀ X ∈ T, X ≠ []) :
    ∀ k, k ≤ es.length → sm (fun e => val e * sm (rp p) e.S) (es.take k) = sm (rp w) (T.take k).flatten - rho p w ((T ++ [B]).getD k []) * sm (rp p) (T.take k).flatten
  | 0, _ => by simp [sm]; grind
  | k + 1, hk => by
    have hk' : k < T.length := by have := h.len; omega
    have ih := paid_sum hp h hne k (by omega)
    have e := h.at_ k (by omega)
    rw [List.take_succ_eq_append_getElem (by omega), sm_snoc, ih, e.v, sm_perm e.S]
    rw [take_flat hk', sm_append, sm_append]
    have ek : (T ++ [B]).getD k [] = T[k] := by
      rw [List.getD_eq_getElem?_getD, List.getElem?_append_left hk', List.getElem?_eq_getElem hk']; rfl
    rw [ek]
    have := rho_mul (w := w) hp (hne T[k] (List.getElem_mem hk'))
    grind
/-- a work of the i-th block that was taken: it stands in the entries from i on -/
theorem paid_count {p w : Nat → Int} {a : Nat} {T : List (List Nat)} {B : List Nat} {es : List Ent} (h : PaidOk p w a T B es) (hn : T.flatten.Nodup) {i j : Nat} (hi : i < T.length) (hj : j ∈ T[i]) :
    ∀ k, k ≤ es.length → sm (fun e => val e * ((e.S.count j : Nat) : Rat)) (es.take k) = if i < k then rho p w ((T ++ [B]).getD i []) - rho p w ((T ++ [B]).getD k []) else 0
  | 0, _ => by simp [sm]
  | k + 1, hk => by
    have hk' : k < T.length := by have := h.len; omega
    have ih := paid_count h hn hi hj k (by omega)
    have e := h.at_ k (by omega)
    rw [List.take_succ_eq_append_getElem (by omega), sm_snoc, ih, e.S.count_eq, e.v]
    have cnt : ((T.take (k + 1)).flatten).count j = if i ≤ k then 1 else 0 := by
      by_cases hik : i ≤ k
      · rw [if_pos hik]
        have hm : j ∈ (T.take (k + 1)).flatten := List.mem_flatten.mpr ⟨T[i], by
          rw [List.mem_take_iff_getElem]; exact ⟨i, by omega, rfl⟩, hj⟩
        have hs : ((T.take (k + 1)).flatten).Nodup := by
          have := hn
          rw [← List.take_append_drop (k + 1) T, List.flatten_append] at this
          exact (List.nodup_append.mp this).1
        rw [hs.count]; simp [hm]
      · rw [if_neg hik]
        refine List.count_eq_zero.mpr fun hm => ?_
        have := hn
        rw [← List.take_append_drop (k + 1) T, List.flatten_append] at this
        have hd : j ∈ (T.drop (k + 1)).flatten := List.mem_flatten.mpr ⟨T[i], by
          rw [List.mem_drop_iff_getElem]; exact ⟨i - (k + 1), by omega, by congr 1; omega⟩, hj⟩
        exact (List.nodup_append.mp this).2.2 j hm j hd rfl
    rw [cnt]
    by_cases h1 : i < k
    · rw [if_pos h1, if_pos (by omega), if_pos (by omega)]; simp; grind
    · rw [if_neg h1]
      by_cases h2 : i = k
      · subst h2
        rw [if_pos (by omega), if_pos (by omega)]; simp; grind
      · rw [if_neg (by omega), if_neg (by omega)]; simp; grind

/-! ### what holds of blocks and prices -/
structure EntOk (re : Nat → Nat → Prop) (bs : List (List Nat)) (e : Ent) : Prop where
  t0 : 0 ≤ e.t
  b0 : 0 < e.b
  g : Int.gcd e.t e.b = 1
  tb : e.t < 2 ^ 59
  bb : e.b < 2 ^ 59
  s : e.S.Pairwise (· < ·)
  re : ∀ b ∈ e.S, re e.a b
  at_ : ∃ X ∈ bs, ∃ pre chunk post, X = pre ++ e.a :: (chunk ++ post) ∧ e.S.Perm chunk
theorem EntOk.mono {re : Nat → Nat → Prop} {bs bs' : List (List Nat)} {e : Ent} (h : EntOk re bs e) (k : ∀ X ∈ bs, ∃ Y ∈ bs', ∃ l r, Y = l ++ X ++ r) : EntOk re bs' e := by
  obtain ⟨X, hX, pre, chunk, post, e1, e2⟩ := h.at_
  obtain ⟨Y, hY, l, r, e3⟩ := k X hX
  exact ⟨h.t0, h.b0, h.g, h.tb, h.bb, h.s, h.re, Y, hY, l ++ pre, chunk, post ++ r, by rw [e3, e1]; simp, e2⟩
structure Good (p w : Nat → Int) (re : Nat → Nat → Prop) (D : List Nat) (bs : List (List Nat)) (ps : List Ent) : Prop where
  perm : bs.flatten.Perm D
  ne : ∀ X ∈ bs, X ≠ []
  d1 : ∀ X ∈ bs, ∀ j ∈ X, rp w j + ctr p ps j = rho p w X * rp p j
  d2 : ∀ j, j ∉ D → ctr p ps j = 0
  ent : ∀ e ∈ ps, EntOk re bs e
  len : ps.length + bs.length = D.length
theorem Good.nil {p w : Nat → Int} {re : Nat → Nat → Prop} : Good p w re [] [] [] :=
  ⟨.nil, (fun _ h => nomatch h), (fun _ h => nomatch h), (fun _ _ => rfl), (fun _ h => nomatch h), rfl⟩
theorem Good.append {p w : Nat → Int} {re : Nat → Nat → Prop} {D1 D2 : List Nat} {b1 b2 : List (List Nat)} {p1 p2 : List Ent} (h1 : Good p w re D1 b1 p1) (h2 : Good p w re D2 b2 p2) (hd : (D1 ++ D2).Nodup) : Good p w re (D1 ++ D2) (b1 ++ b2) (p1 ++ p2) where
  perm := by rw [List.flatten_append]; exact h1.perm.append h2.perm
  ne := fun X h => by
    rcases List.mem_append.mp h with h | h
    · exact h1.ne X h
    · exact h2.ne X h
  d1 := fun X h j hj => by
    have dis := (List.nodup_append.mp hd).2.2
    rw [ctr_append]
    rcases List.mem_append.mp h with h | h
    · have m : j ∈ D1 := h1.perm.mem_iff.mp (List.mem_flatten.mpr ⟨X, h, hj⟩)
      have := h1.d1 X h j hj
      have := h2.d2 j fun z => dis j m j z rfl
      grind
    · have m : j ∈ D2 := h2.perm.mem_iff.mp (List.mem_flatten.mpr ⟨X, h, hj⟩)
      have := h2.d1 X h j hj
      have := h1.d2 j fun z => dis j z j m rfl
      grind
  d2 := fun j hj => by
    rw [List.mem_append, not_or] at hj
    rw [ctr_append, h1.d2 j hj.1, h2.d2 j hj.2]; grind
  ent := fun e h => by
    rcases List.mem_append.mp h with h | h
    · exact (h1.ent e h).mono fun X hX => ⟨X, List.mem_append_left _ hX, [], [], by simp⟩
    · exact (h2.ent e h).mono fun X hX => ⟨X, List.mem_append_right _ hX, [], [], by simp⟩
  len := by
    have := h1.len
    have := h2.len
    simp only [List.length_append]; omega
theorem Good.sort {p w : Nat → Int} {re : Nat → Nat → Prop} {D : List Nat} {bs bs' : List (List Nat)} {ps : List Ent} (h : Good p w re D bs ps) (q : bs'.Perm bs) : Good p w re D bs' ps where
  perm := q.flatten.trans h.perm
  ne := fun X hX => h.ne X (q.mem_iff.mp hX)
  d1 := fun X hX => h.d1 X (q.mem_iff.mp hX)
  d2 := h.d2
  ent := fun e he => (h.ent e he).mono fun X hX => ⟨X, q.mem_iff.mpr hX, [], [], by simp⟩
  len := by rw [q.length_eq]; exact h.len
theorem sm_rho_mid {p w : Nat → Int} (hp : ∀ j, 0 < p j) {A B : List Nat} (hA : A ≠ []) (hB : B ≠ []) (h : rho p w A < rho p w B) : rho p w (A ++ B) ≤ rho p w B := by
  have a := sm_pos hp hA
  have b := sm_pos hp hB
  have ea := rho_mul (w := w) hp hA
  have eb := rho_mul (w := w) hp hB
  have ab := rho_mul (w := w) hp (B := A ++ B) (by simp [hA])
  rw [sm_append, sm_append] at ab
  have h3 : (rho p w (A ++ B) - rho p w B) * (sm (rp p) A + sm (rp p) B) = (rho p w A - rho p w B) * sm (rp p) A := by grind
  have h4 : (rho p w B - rho p w A) * sm (rp p) A ≥ 0 := Rat.mul_nonneg (by grind) (by grind)
  have h5 : (rho p w (A ++ B) - rho p w B) * (sm (rp p) A + sm (rp p) B) ≤ 0 := by grind
  refine Rat.not_lt.mp fun z => ?_
  have : 0 < (rho p w (A ++ B) - rho p w B) * (sm (rp p) A + sm (rp p) B) := Rat.mul_pos (by grind) (by grind)
  grind
/-- the block of a with the first m blocks of the line that it has taken, and the prices for them -/
theorem Good.row {p w : Nat → Int} (hp : ∀ j, 0 < p j) {re : Nat → Nat → Prop} {D : List Nat} {bs : List (List Nat)} {ps es : List Ent} {a m : Nat} (h : Good p w re D bs ps) (hs : bs.Pairwise fun X Y => rho p w Y ≤ rho p w X) (hD : (a :: D).Nodup)
    (hre : ∀ j ∈ D, re a j) (hm : m ≤ bs.length) (htake : ∀ k (_ : k < m), rho p w (a :: (bs.take k).flatten) < rho p w (bs.getD k []))
    (hes : PaidOk p w a (bs.take m) (a :: (bs.take m).flatten) es) : Good p w re (a :: D) ((a :: (bs.take m).flatten) :: bs.drop m) (ps ++ es) := by
  have hDn := List.nodup_cons.mp hD
  have split : (bs.take m).flatten ++ (bs.drop m).flatten = bs.flatten := by rw [← List.flatten_append, List.take_append_drop]
  have hbn : bs.flatten.Nodup := h.perm.nodup_iff.mpr hDn.2
  have hTn : ((bs.take m).flatten).Nodup := by rw [← split] at hbn; exact (List.nodup_append.mp hbn).1
  have hdis : ∀ j ∈ (bs.take m).flatten, j ∉ (bs.drop m).flatten := fun j h1 h2 => by
    rw [← split] at hbn
    exact (List.nodup_append.mp hbn).2.2 j h1 j h2 rfl
  have hmem : ∀ j, j ∈ bs.flatten ↔ j ∈ D := fun j => h.perm.mem_iff
  have haT : a ∉ (bs.take m).flatten := fun z => hDn.1 ((hmem a).mp (by rw [← split]; exact List.mem_append_left _ z))
  have hTne : ∀ X ∈ bs.take m, X ≠ [] := fun X hX => h.ne X (List.mem_of_mem_take hX)
  have hTl : (bs.take m).length = m := by rw [List.length_take]; omega
  have hel : es.length = m := by rw [hes.len, hTl]
  have eT : ∀ k, k < m → (bs.take m ++ [a :: (bs.take m).flatten]).getD k [] = bs.getD k [] := fun k hk => by
    rw [List.getD_eq_getElem?_getD, List.getD_eq_getElem?_getD, List.getElem?_append_left (by omega), List.getElem?_take, if_pos hk]
  have eB : (bs.take m ++ [a :: (bs.take m).flatten]).getD m [] = a :: (bs.take m).flatten := by
    rw [List.getD_eq_getElem?_getD, List.getElem?_append_right (by omega)]; simp [hTl]
  have hS : ∀ k (hk : k < es.length), ∀ j ∈ es[k].S, j ∈ (bs.take m).flatten := fun k hk j hj => by
    have := (hes.at_ k hk).S.mem_iff.mp hj
    obtain ⟨X, hX, hjX⟩ := List.mem_flatten.mp this
    exact List.mem_flatten.mpr ⟨X, List.mem_of_mem_take hX, hjX⟩
  have hSe : ∀ e ∈ es, e.a = a ∧ ∀ j ∈ e.S, j ∈ (bs.take m).flatten := fun e he => by
    obtain ⟨k, hk, rfl⟩ := List.mem_iff_getElem.mp he
    exact ⟨(hes.at_ k hk).a, hS k hk⟩
  -- what the new entries do
  have c0 : ∀ j, j ≠ a → j ∉ (bs.take m).flatten → ctr p es j = 0 := fun j h1 h2 => sm_zero fun e he => by
    obtain ⟨ea, eS⟩ := hSe e he
    unfold ctr1
    rw [if_neg (by rw [ea]; exact fun z => h1 z.symm), List.count_eq_zero.mpr fun z => h2 (eS j z)]
    simp; grind
  have ca : ctr p es a = sm (rp w) (bs.take m).flatten - rho p w (a :: (bs.take m).flatten) * sm (rp p) (bs.take m).flatten := by
    have q := paid_sum hp hes hTne m (by omega)
    rw [List.take_of_length_le (by omega), List.take_of_length_le (by omega), eB] at q
    rw [← q]
    refine sm_congr fun e he => ?_
    obtain ⟨ea, eS⟩ := hSe e he
    unfold ctr1
    rw [if_pos ea, List.count_eq_zero.mpr fun z => haT (eS a z)]
    simp; grind
  have ct : ∀ i (hi : i < m) j, j ∈ (bs.take m)[i]'(by omega) → ctr p es j = - (rho p w ((bs.take m)[i]'(by omega)) - rho p w (a :: (bs.take m).flatten)) * rp p j := fun i hi j hj => by
    have q := paid_count hes hTn (i := i) (j := j) (by omega) hj m (by omega)
    rw [List.take_of_length_le (by omega), if_pos hi, eB, eT i hi] at q
    have e2 : bs.getD i [] = (bs.take m)[i]'(by omega) := by
      rw [List.getElem_take, List.getD_eq_getElem?_getD, List.getElem?_eq_getElem (by omega)]; rfl
    rw [e2] at q
    have hjT : j ∈ (bs.take m).flatten := List.mem_flatten.mpr ⟨_, List.getElem_mem (by omega), hj⟩
    rw [← q]
    have z : ctr p es j = sm (fun e => (- rp p j) * (val e * ((e.S.count j : Nat) : Rat))) es := sm_congr fun e he => by
      obtain ⟨ea, eS⟩ := hSe e he
      unfold ctr1
      rw [if_neg (by rw [ea]; intro y; exact haT (y ▸ hjT))]
      grind
    rw [z, sm_mul]; grind
  have rB := rho_mul (w := w) hp (B := a :: (bs.take m).flatten) (by simp)
  -- the prices aren't below nought
  have hle : ∀ k (hk : k < m), rho p w ((bs.take m ++ [a :: (bs.take m).flatten]).getD (k + 1) []) ≤ rho p w ((bs.take m ++ [a :: (bs.take m).flatten]).getD k []) := fun k hk => by
    rw [eT k hk]
    by_cases h1 : k + 1 < m
    · rw [eT _ h1, List.getD_eq_getElem?_getD, List.getD_eq_getElem?_getD, List.getElem?_eq_getElem (by omega), List.getElem?_eq_getElem (by omega)]
      exact List.pairwise_iff_getElem.mp hs k (k + 1) (by omega) (by omega) (by omega)
    · have e1 : k + 1 = m := by omega
      rw [e1, eB]
      have q := htake k hk
      have e2 : (bs.take m).flatten = (bs.take k).flatten ++ bs.getD k [] := by
        rw [← e1, take_flat (by omega), List.getD_eq_getElem?_getD, List.getElem?_eq_getElem (by omega)]; rfl
      rw [e2, ← List.cons_append]
      refine sm_rho_mid hp (by simp) ?_ q
      rw [List.getD_eq_getElem?_getD, List.getElem?_eq_getElem (by omega)]
      exact h.ne _ (List.getElem_mem _)
  refine ⟨?_, ?_, ?_, ?_, ?_, ?_⟩
  · rw [List.flatten_cons, List.cons_append, split]
    exact h.perm.cons a
  · intro X hX
    rcases List.mem_cons.mp hX with rfl | hX
    · simp
    · exact h.ne X (List.mem_of_mem_drop hX)
  · intro X hX j hj
    rw [ctr_append]
    rcases List.mem_cons.mp hX with rfl | hX
    · rcases List.mem_cons.mp hj with rfl | hj
      · have := h.d2 j hDn.1
        rw [this, ca]
        simp only [sm] at rB
        grind
      · obtain ⟨Y, hY, hjY⟩ := List.mem_flatten.mp hj
        obtain ⟨i, hi, rfl⟩ := List.mem_iff_getElem.mp hY
        have := h.d1 _ (List.mem_of_mem_take hY) j hjY
        have := ct i (by omega) j hjY
        grind
    · have hjd : j ∈ (bs.drop m).flatten := List.mem_flatten.mpr ⟨X, hX, hj⟩
      have hjD : j ∈ D := (hmem j).mp (by rw [← split]; exact List.mem_append_right _ hjd)
      have := h.d1 X (List.mem_of_mem_drop hX) j hj
      have := c0 j (fun z => hDn.1 (z ▸ hjD)) fun z => hdis j z hjd
      grind
  · intro j hj
    rw [List.mem_cons, not_or] at hj
    rw [ctr_append, h.d2 j hj.2, c0 j hj.1 fun z => hj.2 ((hmem j).mp (by rw [← split]; exact List.mem_append_left _ z))]
    grind
  · intro e he
    rcases List.mem_append.mp he with he | he
    · refine (h.ent e he).mono fun X hX => ?_
      rw [← List.take_append_drop m bs] at hX
      rcases List.mem_append.mp hX with hX | hX
      · obtain ⟨l, r, q⟩ := List.append_of_mem hX
        exact ⟨_, List.mem_cons_self, a :: l.flatten, r.flatten, by rw [q]; simp⟩
      · exact ⟨X, List.mem_cons_of_mem _ hX, [], [], by simp⟩
    · obtain ⟨k, hk, rfl⟩ := List.mem_iff_getElem.mp he
      have q := hes.at_ k hk
      refine ⟨?_, q.b0, q.g, q.tb, q.bb, q.s, fun b hb => ?_, _, List.mem_cons_self, [], ((bs.take m).take (k + 1)).flatten, ((bs.take m).drop (k + 1)).flatten, ?_, q.S⟩
      · have v := q.v
        have hv : 0 ≤ val es[k] := by
          have := hle k (by omega)
          rw [v]; grind
        unfold val at hv
        have hb : (0 : Rat) < (es[k].b : Rat) := by exact_mod_cast q.b0
        have : (0 : Rat) ≤ (es[k].t : Rat) := by
          have h2 := Rat.mul_nonneg hv (Rat.le_of_lt hb)
          have h3 : (es[k].t : Rat) / (es[k].b : Rat) * (es[k].b : Rat) = es[k].t := by grind
          rw [h3] at h2; exact h2
        exact_mod_cast this
      · rw [q.a]
        exact hre b ((hmem b).mp (by rw [← split]; exact List.mem_append_left _ (hS k hk b hb)))
      · rw [q.a, List.nil_append, ← List.flatten_append, List.take_append_drop]
  · have := h.len
    simp only [List.length_append, List.length_cons, List.length_drop, hel]; omega

/-! ### the end: the joined blocks' order costs just what their prices show -/
theorem tur_ctr {p : Nat → Int} {sh : Int} : ∀ {es : List Ent}, (∀ e ∈ es, 0 < e.b ∧ e.b ∣ sh) → ∀ j, ((tur p (fun e => e.t * (sh / e.b)) es j : Int) : Rat) = (sh : Rat) * ctr p es j
  | [], _, j => by simp [tur, ctr, sm]
  | e :: es, h, j => by
    have ih := tur_ctr (p := p) (sh := sh) (es := es) (fun x hx => h x (List.mem_cons_of_mem _ hx)) j
    obtain ⟨hb, d⟩ := h e List.mem_cons_self
    obtain ⟨z, hz⟩ := d
    have hbR : (0 : Rat) < (e.b : Rat) := by exact_mod_cast hb
    have q : sh / e.b = z := by rw [hz]; exact Int.mul_ediv_cancel_left z (by omega)
    have hv : val e * (e.b : Rat) = (e.t : Rat) := by unfold val; grind
    have hsm : ∀ l : List Nat, ((sm p l : Int) : Rat) = sm (rp p) l := by
      intro l
      induction l with
      | nil => rfl
      | cons x r ih => simp only [sm, rp, Rat.intCast_add]; rw [ih]
    simp only [tur, ctr, sm] at ih ⊢
    rw [Rat.intCast_add, ih]
    have e1 : ((con p e.a e.S (e.t * (sh / e.b)) j : Int) : Rat) = (sh : Rat) * ctr1 p e j := by
      have hs : (sh : Rat) = (e.b : Rat) * (z : Rat) := by rw [hz, Rat.intCast_mul]
      unfold con ctr1
      rw [q]
      by_cases ha : e.a = j
      · rw [if_pos ha, if_pos ha]
        simp only [Rat.intCast_mul, Rat.intCast_sub, hsm, hs, Rat.intCast_natCast, rp]
        grind
      · rw [if_neg ha, if_neg ha]
        simp only [Rat.intCast_mul, Rat.intCast_sub, hs, Rat.intCast_natCast, rp]
        grind
    rw [e1]; grind
theorem Good.shown {p w : Nat → Int} (hp : ∀ j, 0 < p j) {re : Nat → Nat → Prop} {n : Nat} {bs : List (List Nat)} {ps : List Ent} {c sh : Int} (h : Good p w re (List.range n) bs ps) (hs : bs.Pairwise fun X Y => rho p w Y ≤ rho p w X) (hsh : 0 < sh) (hd : ∀ e ∈ ps, e.b ∣ sh) :
    shown p w c n sh (fun e => e.t * (sh / e.b)) ps = sh * cost p w c bs.flatten := by
  have tc := tur_ctr (p := p) (sh := sh) (es := ps) fun e he => ⟨(h.ent e he).b0, hd e he⟩
  have hshR : (0 : Rat) < (sh : Rat) := by exact_mod_cast hsh
  have key : ∀ X ∈ bs, ∀ j ∈ X, ((sh * w j + tur p (fun e => e.t * (sh / e.b)) ps j : Int) : Rat) = (sh : Rat) * (rho p w X * rp p j) := fun X hX j hj => by
    rw [Rat.intCast_add, Rat.intCast_mul, tc, ← h.d1 X hX j hj]
    unfold rp; grind
  refine shown_eq h.perm (fun e he => ?_) ?_
  · obtain ⟨X, hX, pre, chunk, post, e1, e2⟩ := (h.ent e he).at_
    obtain ⟨l, r, q⟩ := List.append_of_mem hX
    exact ⟨l.flatten ++ pre, chunk, post ++ r.flatten, by rw [q, List.flatten_append, List.flatten_cons, e1]; simp, e2⟩
  · rw [List.pairwise_flatten]
    have pos : ∀ j, (0 : Rat) < rp p j := fun j => by unfold rp; exact_mod_cast hp j
    refine ⟨fun X hX => ?_, hs.imp_of_mem fun {X Y} hX hY hXY i hi j hj => ?_⟩
    · refine List.Pairwise.imp_of_mem (R := fun _ _ => True) (fun {i j} hi hj _ => ?_) (List.pairwise_of_forall fun _ _ => trivial)
      have : (((p i * (sh * w j + tur p (fun e => e.t * (sh / e.b)) ps j) : Int)) : Rat) ≤ ((p j * (sh * w i + tur p (fun e => e.t * (sh / e.b)) ps i) : Int) : Rat) := by
        rw [Rat.intCast_mul, Rat.intCast_mul (p j), key X hX i hi, key X hX j hj]
        unfold rp; grind
      exact_mod_cast this
    · have : (((p i * (sh * w j + tur p (fun e => e.t * (sh / e.b)) ps j) : Int)) : Rat) ≤ ((p j * (sh * w i + tur p (fun e => e.t * (sh / e.b)) ps i) : Int) : Rat) := by
        rw [Rat.intCast_mul, Rat.intCast_mul (p j), key X hX i hi, key Y hY j hj]
        have a1 := pos i
        have a2 := pos j
        have a3 : 0 ≤ (sh : Rat) * (rp p i * rp p j) * (rho p w X - rho p w Y) := Rat.mul_nonneg (Rat.mul_nonneg (by grind) (Rat.mul_nonneg (by grind) (by grind))) (by grind)
        unfold rp at *; grind
      exact_mod_cast this
end NW
/-! Plain mathematics of k67, third part: wishes, what is behind a work, the trees of a forest -/
namespace NW
inductive Reach (wl : List (Nat × Nat)) (a : Nat) : Nat → Prop
  | one {b : Nat} : (a, b) ∈ wl → Reach wl a b
  | step {b c : Nat} : Reach wl a b → (b, c) ∈ wl → Reach wl a c
theorem Reach.last {wl : List (Nat × Nat)} {a b : Nat} (h : Reach wl a b) : ∃ x, (x, b) ∈ wl ∧ (x = a ∨ Reach wl a x) := by
  cases h with
  | one h => exact ⟨a, h, .inl rfl⟩
  | step h q => exact ⟨_, q, .inr h⟩
theorem Reach.mono {wl wl' : List (Nat × Nat)} (k : ∀ e ∈ wl, e ∈ wl') {a b : Nat} (h : Reach wl a b) : Reach wl' a b := by
  induction h with
  | one h => exact .one (k _ h)
  | step _ q ih => exact .step ih (k _ q)
theorem Reach.cons {wl : List (Nat × Nat)} {a b c : Nat} (h : (a, b) ∈ wl) (q : Reach wl b c) : Reach wl a c := by
  induction q with
  | one q => exact .step (.one h) q
  | step _ q ih => exact .step ih q
/-- wishes that go up by rk, of works below n -/
structure Ranked (wl : List (Nat × Nat)) (rk : Nat → Nat) (n : Nat) : Prop where
  up : ∀ e ∈ wl, rk e.1 < rk e.2
  lt : ∀ e ∈ wl, e.1 < n ∧ e.2 < n
  rl : ∀ j, j < n → rk j < n
theorem Ranked.sub {wl wl' : List (Nat × Nat)} {rk : Nat → Nat} {n : Nat} (h : Ranked wl rk n) (k : ∀ e ∈ wl', e ∈ wl) : Ranked wl' rk n :=
  ⟨fun e he => h.up e (k e he), fun e he => h.lt e (k e he), h.rl⟩
theorem Ranked.reach {wl : List (Nat × Nat)} {rk : Nat → Nat} {n : Nat} (h : Ranked wl rk n) {a b : Nat} (r : Reach wl a b) : rk a < rk b ∧ b < n := by
  induction r with
  | one q => exact ⟨h.up _ q, (h.lt _ q).2⟩
  | step _ q ih => exact ⟨Nat.lt_trans ih.1 (h.up _ q), (h.lt _ q).2⟩
def ch (wl : List (Nat × Nat)) (a : Nat) : List Nat := (wl.filter fun e => e.1 == a).map (·.2)
theorem ch_mem {wl : List (Nat × Nat)} {a b : Nat} : b ∈ ch wl a ↔ (a, b) ∈ wl := by
  unfold ch
  rw [List.mem_map]
  constructor
  · rintro ⟨⟨x, y⟩, h, rfl⟩
    rw [List.mem_filter] at h
    have : x = a := by simpa using h.2
    subst this
    exact h.1
  · intro h
    exact ⟨(a, b), List.mem_filter.mpr ⟨h, by simp⟩, rfl⟩
def desc (wl : List (Nat × Nat)) : Nat → Nat → List Nat
  | 0, _ => []
  | f + 1, a => a :: (ch wl a).flatMap (desc wl f)
theorem desc_reach {wl : List (Nat × Nat)} : ∀ (f a b : Nat), b ∈ desc wl f a → b = a ∨ Reach wl a b
  | 0, _, _, h => by simp [desc] at h
  | f + 1, a, b, h => by
    simp only [desc, List.mem_cons, List.mem_flatMap] at h
    rcases h with h | ⟨c, hc, h⟩
    · exact .inl h
    · right
      have hc' := ch_mem.mp hc
      rcases desc_reach f c b h with rfl | r
      · exact .one hc'
      · exact Reach.cons hc' r
def cnt (wl : List (Nat × Nat)) (f a j : Nat) : Int := ((desc wl f a).count j : Nat)
theorem count_fm (g : Nat → List Nat) (j : Nat) : ∀ l : List Nat, (((l.flatMap g).count j : Nat) : Int) = sm (fun c => (((g c).count j : Nat) : Int)) l
  | [] => rfl
  | x :: r => by
    rw [List.flatMap_cons, List.count_append]
    simp only [sm]
    rw [← count_fm g j r]
    omega
theorem count_sm (j : Nat) : ∀ l : List Nat, ((l.count j : Nat) : Int) = sm (fun c => if c = j then (1 : Int) else 0) l
  | [] => rfl
  | x :: r => by
    rw [List.count_cons]
    simp only [sm]
    rw [← count_sm j r]
    by_cases h : x = j
    · subst h; simp; omega
    · have : (x == j) = false := by simpa using h
      simp [h, this]
theorem cnt_succ {wl : List (Nat × Nat)} (f a j : Nat) : cnt wl (f + 1) a j = (if a = j then 1 else 0) + sm (fun c => cnt wl f c j) (ch wl a) := by
  unfold cnt
  simp only [desc]
  rw [List.count_cons]
  have := count_fm (desc wl f) j (ch wl a)
  by_cases h : a = j
  · subst h; simp; omega
  · have hb : (a == j) = false := by simpa using h
    simp [h, hb]; omega
theorem cnt_root {wl : List (Nat × Nat)} {j : Nat} (h : ∀ e ∈ wl, e.2 ≠ j) : ∀ (f a : Nat), cnt wl (f + 1) a j = if a = j then 1 else 0
  | 0, a => by
    rw [cnt_succ, sm_zero (f := fun c => cnt wl 0 c j) fun c _ => rfl]; omega
  | f + 1, a => by
    rw [cnt_succ, sm_zero (f := fun c => cnt wl (f + 1) c j) fun c hc => ?_]
    · omega
    · rw [cnt_root h f c, if_neg]
      exact h (a, c) (ch_mem.mp hc)
theorem ch_count {wl : List (Nat × Nat)} {q j : Nat} (hn : (wl.map (·.2)).Nodup) (hq : (q, j) ∈ wl) (a : Nat) : (((ch wl a).count j : Nat) : Int) = if a = q then 1 else 0 := by
  have nd : (ch wl a).Nodup := by
    unfold ch
    exact List.Nodup.sublist (List.Sublist.map _ List.filter_sublist) hn
  rw [nd.count]
  by_cases h : a = q
  · subst h
    rw [if_pos (ch_mem.mpr hq), if_pos rfl]; rfl
  · rw [if_neg, if_neg h]; · rfl
    intro z
    have z' := ch_mem.mp z
    -- two wishes with one second
    obtain ⟨i, hi, ei⟩ := List.mem_iff_getElem.mp hq
    obtain ⟨k, hk, ek⟩ := List.mem_iff_getElem.mp z'
    have : i = k := by
      refine (List.getElem_inj (h₀ := by simpa using hi) (h₁ := by simpa using hk) hn).mp ?_
      simp [ei, ek]
    subst this
    rw [ei] at ek
    exact h (congrArg Prod.fst ek).symm
theorem cnt_child {wl : List (Nat × Nat)} {q j : Nat} (hn : (wl.map (·.2)).Nodup) (hq : (q, j) ∈ wl) : ∀ (f a : Nat), cnt wl (f + 1) a j = (if a = j then 1 else 0) + cnt wl f a q
  | 0, a => by
    rw [cnt_succ, sm_zero (f := fun c => cnt wl 0 c j) fun c _ => rfl]
    simp [cnt, desc]
  | f + 1, a => by
    rw [cnt_succ, sm_congr fun c _ => cnt_child hn hq f c, sm_add, ← count_sm, ch_count hn hq, cnt_succ f a q]
def roots (wl : List (Nat × Nat)) (n : Nat) : List Nat := (List.range n).filter fun j => !decide (j ∈ wl.map (·.2))
theorem roots_mem {wl : List (Nat × Nat)} {n j : Nat} : j ∈ roots wl n ↔ j < n ∧ ∀ e ∈ wl, e.2 ≠ j := by
  unfold roots
  rw [List.mem_filter, List.mem_range]
  constructor
  · rintro ⟨h1, h2⟩
    refine ⟨h1, fun e he z => ?_⟩
    have : j ∉ wl.map (·.2) := by simpa using h2
    exact this (List.mem_map.mpr ⟨e, he, z⟩)
  · rintro ⟨h1, h2⟩
    refine ⟨h1, ?_⟩
    have : j ∉ wl.map (·.2) := fun z => by
      obtain ⟨e, he, z⟩ := List.mem_map.mp z
      exact h2 e he z
    simpa using this
theorem roots_nd {wl : List (Nat × Nat)} {n : Nat} : (roots wl n).Nodup := List.nodup_range.sublist List.filter_sublist
theorem roots_count {wl : List (Nat × Nat)} {rk : Nat → Nat} {n : Nat} (h : Ranked wl rk n) (hn : (wl.map (·.2)).Nodup) : ∀ (f j : Nat), j < n → rk j < f → sm (fun a => cnt wl f a j) (roots wl n) = 1
  | 0, j, _, hf => absurd hf (Nat.not_lt_zero _)
  | f + 1, j, hj, hf => by
    by_cases hp : ∃ q, (q, j) ∈ wl
    · obtain ⟨q, hq⟩ := hp
      have hqn := (h.lt _ hq).1
      have hu : rk q < rk j := h.up _ hq
      have ih := roots_count h hn f q hqn (by omega)
      rw [sm_congr fun c _ => cnt_child hn hq f c, sm_add, ← count_sm, ih]
      have : j ∉ roots wl n := fun z => (roots_mem.mp z).2 _ hq rfl
      rw [List.count_eq_zero.mpr this]; rfl
    · have hr : ∀ e ∈ wl, e.2 ≠ j := fun e he z => hp ⟨e.1, by rw [← z]; exact he⟩
      rw [sm_congr fun c _ => cnt_root hr f c, ← count_sm, roots_nd.count, if_pos (roots_mem.mpr ⟨hj, hr⟩)]; rfl
/-- the roots and all behind them are all works, each once -/
theorem roots_perm {wl : List (Nat × Nat)} {rk : Nat → Nat} {n f : Nat} (h : Ranked wl rk n) (hn : (wl.map (·.2)).Nodup) (hf : n ≤ f) : ((roots wl n).flatMap (desc wl f)).Perm (List.range n) := by
  rw [List.perm_iff_count]
  intro j
  have e := count_fm (desc wl f) j (roots wl n)
  by_cases hj : j < n
  · have := roots_count h hn f j hj (by have := h.rl j hj; omega)
    unfold cnt at this
    rw [List.nodup_range.count, if_pos (List.mem_range.mpr hj)]
    omega
  · rw [List.count_eq_zero.mpr (show j ∉ List.range n by simpa using hj), List.count_eq_zero.mpr]
    intro z
    obtain ⟨a, ha, hja⟩ := List.mem_flatMap.mp z
    rcases desc_reach f a j hja with rfl | r
    · exact hj (roots_mem.mp ha).1
    · exact hj (h.reach r).2
end NW
/-! k67 by hand: the text by places, short words -/
namespace NW
open PySem PySem.Spec PyProof.Rows L2
def top (i : Nat) : Stmt := PySem.Challenge.pw_benchdays_k67_whole_an_n_of_wishes.main.body.getD i (.Pass ⟨0, 0, 0, 0⟩)
/-- a def of the text that stands at its module's name -/
def Df (K : PySem.W.Frag) (mg : Str → Option Value) (x : Str) (st : Stmt) : Prop := ∃ f fd, Fun K x x st f fd ∧ mg x = some (.ref f)
/-- a def that keeps its promise and can be called by its name -/
def RdyX (CX : CXT) (P : Program) (w : World) (K : PySem.W.Frag) (mg : Str → Option Value) (base : Heap) (x : Str) (k : Nat) (ps : List Str) (sp : Sp) : Prop :=
  ∃ f fd, mg x = some (.ref f) ∧ FnOk P w K mg base CX k f fd ps sp ∧ Binds K fd ps [] ∧ PySem.W.keepIn K (.ref f) = true
abbrev Rdy := RdyX CX0
section
variable {P : Program} {w : World} {K : PySem.W.Frag} {mg : Str → Option Value} {base : Heap} {X : Cx}
theorem RdyX.mono {CX : CXT} {x : Str} {j k : Nat} {ps : List Str} {sp : Sp} (R : RdyX CX P w K mg base x j ps sp) (h : j ≤ k) : RdyX CX P w K mg base x k ps sp := by
  obtain ⟨f, fd, a, b, c, d⟩ := R
  exact ⟨f, fd, a, b.mono h, c, d⟩
theorem RdyX.imp {CX : CXT} {x : Str} {k : Nat} {ps : List Str} {sp sp' : Sp} (R : RdyX CX P w K mg base x k ps sp) (h : ∀ vs H Q E, sp' vs H Q E → sp vs H Q E) : RdyX CX P w K mg base x k ps sp' := by
  obtain ⟨f, fd, a, b, c, d⟩ := R
  exact ⟨f, fd, a, b.imp h, c, d⟩
/-- THE RULE for a def -/
theorem rdy {x : Str} {st : Stmt} {N ps : List Str} {k : Nat} {sp : Sp} (D : Df K mg x st) (S : FnScope N ps (defScope st)) (hb : ∀ (kV doc pm : Value) (an : Option Addr) (cdv ct : Value) (us : List Value), us.length = ps.length → bindArgs (PySem.W.fnOf x x (defArgs st) (defBody st) (defScope st) .none kV doc pm an cdv ct) ⟨us, []⟩ = pure (ps.zip us))
    (len : ∀ vs H Q E, sp vs H Q E → vs.length = ps.length)
    (hbody : ∀ (f : Addr) (cdv : Value) (A : Around) (outer : List Env) (s : Shared) (H : Hp) (vs : List V) (Q : VK) (E : XK), Room k (A.deeper (envOfC x (defScope st) s.heap.objs.size f cdv)) → sp vs H Q E →
      ∃ t, PSs (cxOf CX0 P w K mg base N x (defScope st) f cdv A outer s H E).nox (defBody st) t ∧ t { nx := fun _ H' => Q .non H', rt := Q } (start N vs) H) : Rdy P w K mg base x (k + 1) ps sp := by
  obtain ⟨f, fd, F, m⟩ := D
  exact ⟨f, fd, m, F.ok S len (hbody f), F.binds hb, F.kp⟩
/-- .. that may raise -/
theorem rdyX {x : Str} {st : Stmt} {N ps : List Str} {k : Nat} {sp : Sp} (D : Df K mg x st) (S : FnScope N ps (defScope st)) (hb : ∀ (kV doc pm : Value) (an : Option Addr) (cdv ct : Value) (us : List Value), us.length = ps.length → bindArgs (PySem.W.fnOf x x (defArgs st) (defBody st) (defScope st) .none kV doc pm an cdv ct) ⟨us, []⟩ = pure (ps.zip us))
    (len : ∀ vs H Q E, sp vs H Q E → vs.length = ps.length)
    (hbody : ∀ (f : Addr) (cdv : Value) (A : Around) (outer : List Env) (s : Shared) (H : Hp) (vs : List V) (Q : VK) (E : XK), Room k (A.deeper (envOfC x (defScope st) s.heap.objs.size f cdv)) → sp vs H Q E →
      ∃ t, PSs (cxOf (L2.CX P w) P w K mg base N x (defScope st) f cdv A outer s H E) (defBody st) t ∧ t { nx := fun _ H' => Q .non H', rt := Q } (start N vs) H) : RdyX (L2.CX P w) P w K mg base x (k + 1) ps sp := by
  obtain ⟨f, fd, F, m⟩ := D
  exact ⟨f, fd, m, F.okX S len (hbody f), F.binds hb, F.kp⟩
theorem pe_cl {x : Str} {k : Nat} {ps : List Str} {sp : Sp} {p pos : Pos} {e : Expr} {es : List Expr} {t : TA} (R : Rdy X.prog X.w X.K X.mg X.base x k ps sp) (hr : Room k X.A) (ha : PA X (e :: es) t) (hg : Gl X x := by rfl)
    (hdb : (x == ("__debug__" : Str)) = false := by decide) (he : starEach (e :: es) X.env = (false, eval e X.env) :: starEach es X.env := by rfl) (hpl : (backTo pos (starEach es X.env)).any (·.1) = false := by rfl) :
    PE X (.Call (.Name x p) (e :: es) [] pos) (tCall sp [] E0 t) := by
  obtain ⟨f, fd, m, F, b, kp⟩ := R
  exact pe_call F hr hg m kp b .nil pass0 ha hdb he hpl
end
/-! ### data in the heap -/
/-- all tuples are kept -/
def KT (H H' : Hp) : Prop := ∀ b xs, H b = some (.tup xs) → H' b = some (.tup xs)
theorem KT.refl (H : Hp) : KT H H := fun _ _ h => h
theorem KT.trans {H H1 H2 : Hp} (a : KT H H1) (b : KT H1 H2) : KT H H2 := fun c o h => b c o (a c o h)
theorem KT.same {H H' : Hp} (h : Same H H') : KT H H' := fun b xs e => h b _ e
theorem KT.new {H : Hp} {p : Addr} {o : HO} (h : H p = none) : KT H (upd H p o) := fun b xs e => by rw [upd_ne (ne_of_none e h)]; exact e
theorem KT.lst {H : Hp} {p : Addr} {xs : List V} {o : HO} (h : H p = some (.lst xs)) : KT H (upd H p o) := fun b ys e => by
  rw [upd_ne (ne_of e h (by intro z; cases z))]; exact e
theorem same_new {H : Hp} {p : Addr} {o : HO} (h : H p = none) : Same H (upd H p o) := fun b u q => by rw [upd_ne (ne_of_none q h)]; exact q
/-- all but what stands at t is as it was -/
def But (t : Addr) (H H' : Hp) : Prop := ∀ b o, b ≠ t → H b = some o → H' b = some o
theorem But.same {t : Addr} {H H' : Hp} (h : Same H H') : But t H H' := fun b o _ e => h b o e
theorem But.trans {t : Addr} {H H1 H2 : Hp} (a : But t H H1) (b : But t H1 H2) : But t H H2 := fun c o n h => b c o n (a c o n h)
theorem But.upd {t : Addr} {H : Hp} {o : HO} : But t H (upd H t o) := fun b u n q => by rw [upd_ne n]; exact q
theorem But.kt {t : Addr} {H H' : Hp} {xs : List V} (h : But t H H') (e : H t = some (.lst xs)) : KT H H' := fun b ys q => h b _ (ne_of q e (by intro z; cases z)) q
/-- two lists, place by place -/
inductive All2 {α β : Type} (r : α → β → Prop) : List α → List β → Prop
  | nil : All2 r [] []
  | cons {a b l m} : r a b → All2 r l m → All2 r (a :: l) (b :: m)
section
variable {α β : Type} {r r' : α → β → Prop}
theorem All2.length : ∀ {l : List α} {m : List β}, All2 r l m → l.length = m.length
  | _, _, .nil => rfl
  | _, _, .cons _ t => congrArg (· + 1) t.length
theorem All2.imp : ∀ {l : List α} {m : List β}, All2 r l m → (∀ a b, r a b → r' a b) → All2 r' l m
  | _, _, .nil, _ => .nil
  | _, _, .cons h t, f => .cons (f _ _ h) (t.imp f)
theorem All2.append : ∀ {l l' : List α} {m m' : List β}, All2 r l m → All2 r l' m' → All2 r (l ++ l') (m ++ m')
  | _, _, _, _, .nil, s => s
  | _, _, _, _, .cons h t, s => .cons h (t.append s)
theorem All2.snoc {l : List α} {m : List β} {a : α} {b : β} (h : All2 r l m) (q : r a b) : All2 r (l ++ [a]) (m ++ [b]) := h.append (.cons q .nil)
theorem All2.get : ∀ {l : List α} {m : List β} {i : Nat} {b : β}, All2 r l m → m[i]? = some b → ∃ a, l[i]? = some a ∧ r a b
  | _, _, _, _, .nil, e => by simp at e
  | _, _, 0, _, .cons h _, e => by simp at e; subst e; exact ⟨_, rfl, h⟩
  | _, _, i + 1, b, .cons _ t, e => by
    obtain ⟨a, h1, h2⟩ := t.get (i := i) (b := b) (by simpa using e)
    exact ⟨a, by simpa using h1, h2⟩
theorem All2.get' : ∀ {l : List α} {m : List β} {i : Nat} {a : α}, All2 r l m → l[i]? = some a → ∃ b, m[i]? = some b ∧ r a b
  | _, _, _, _, .nil, e => by simp at e
  | _, _, 0, _, .cons h _, e => by simp at e; subst e; exact ⟨_, rfl, h⟩
  | _, _, i + 1, b, .cons _ t, e => by
    obtain ⟨a, h1, h2⟩ := t.get' (i := i) (a := b) (by simpa using e)
    exact ⟨a, by simpa using h1, h2⟩
theorem All2.take : ∀ {l : List α} {m : List β} (n : Nat), All2 r l m → All2 r (l.take n) (m.take n)
  | _, _, 0, _ => .nil
  | _, _, _ + 1, .nil => .nil
  | _, _, n + 1, .cons h t => .cons h (t.take n)
theorem All2.drop : ∀ {l : List α} {m : List β} (n : Nat), All2 r l m → All2 r (l.drop n) (m.drop n)
  | _, _, 0, h => h
  | _, _, _ + 1, .nil => .nil
  | _, _, n + 1, .cons _ t => t.drop n
theorem All2.perm {l l' : List α} (p : l'.Perm l) : ∀ {m : List β}, All2 r l m → ∃ m', m'.Perm m ∧ All2 r l' m' := by
  induction p with
  | nil => intro m h; exact ⟨m, .refl _, h⟩
  | cons x p ih =>
    intro m h
    cases h with
    | cons h t =>
      obtain ⟨m', a, b⟩ := ih t
      exact ⟨_ :: m', a.cons _, .cons h b⟩
  | swap x y l =>
    intro m h
    cases h with
    | cons h t =>
      cases t with
      | cons h' t => exact ⟨_, .swap _ _ _, .cons h' (.cons h t)⟩
  | trans _ _ i1 i2 =>
    intro m h
    obtain ⟨m1, a, b⟩ := i2 h
    obtain ⟨m2, c, d⟩ := i1 b
    exact ⟨m2, c.trans a, d⟩
end
/-- a number of a work as a value -/
def nv (j : Nat) : V := .int (j : Int)
/-- a tuple of numbers of works at v -/
def BlkV (H : Hp) (v : V) (l : List Nat) : Prop := ∃ b, v = .ref b ∧ H b = some (.tup (l.map nv))
/-- a pair of numbers -/
def WshV (H : Hp) (v : V) (e : Nat × Nat) : Prop := ∃ b, v = .ref b ∧ H b = some (.tup [nv e.1, nv e.2])
/-- a fraction -/
def FrV (H : Hp) (v : V) (t b : Int) : Prop := ∃ q, v = .ref q ∧ H q = some (.tup [.int t, .int b])
theorem BlkV.kt {H H' : Hp} {v : V} {l : List Nat} (k : KT H H') : BlkV H v l → BlkV H' v l := fun ⟨b, e, h⟩ => ⟨b, e, k _ _ h⟩
theorem WshV.kt {H H' : Hp} {v : V} {e : Nat × Nat} (k : KT H H') : WshV H v e → WshV H' v e := fun ⟨b, e, h⟩ => ⟨b, e, k _ _ h⟩
theorem FrV.kt {H H' : Hp} {v : V} {t b : Int} (k : KT H H') : FrV H v t b → FrV H' v t b := fun ⟨q, e, h⟩ => ⟨q, e, k _ _ h⟩
/-- a tuple of works, all coming at c: lengths p, weights w -/
structure Works (H : Hp) (a : Addr) (c : Int) (n : Nat) (p w : Nat → Int) : Prop where
  ex : ∃ vs : List V, H a = some (.tup vs) ∧ vs.length = n ∧ ∀ j, j < n → ∃ b q, vs[j]? = some (.ref b) ∧ H b = some (.tup [.int (p j), .int c, .ref q]) ∧ H q = some (.tup [.str "ends", .int (w j)])
  n1 : 1 ≤ n
  n8 : n ≤ 8
  pp : ∀ j, 1 ≤ p j ∧ p j ≤ 1000000
  ww : ∀ j, 0 ≤ w j ∧ w j ≤ 1000000
  cc : 0 ≤ c ∧ c ≤ 60
theorem Works.kt {H H' : Hp} {a : Addr} {c : Int} {n : Nat} {p w : Nat → Int} (k : KT H H') (h : Works H a c n p w) : Works H' a c n p w := by
  obtain ⟨⟨vs, h1, h2, h3⟩, n1, n8, pp, ww, cc⟩ := h
  exact ⟨⟨vs, k _ _ h1, h2, fun j hj => by
    obtain ⟨b, q, e1, e2, e3⟩ := h3 j hj
    exact ⟨b, q, e1, k _ _ e2, k _ _ e3⟩⟩, n1, n8, pp, ww, cc⟩
/-- wishes -/
def Wsh (H : Hp) (a : Addr) (wl : List (Nat × Nat)) : Prop := ∃ vs : List V, H a = some (.tup vs) ∧ All2 (WshV H) vs wl
theorem Wsh.kt {H H' : Hp} {a : Addr} {wl : List (Nat × Nat)} (k : KT H H') (h : Wsh H a wl) : Wsh H' a wl := by
  obtain ⟨vs, h1, h2⟩ := h
  exact ⟨vs, k _ _ h1, h2.imp fun _ _ => WshV.kt k⟩
theorem SqT.of' {K : PySem.W.Frag} {H : Hp} {a : Addr} {xs : List V} (h : H a = some (.tup xs)) : SqT K H a xs := SqT.of h
theorem SqL.of' {K : PySem.W.Frag} {H : Hp} {a : Addr} {xs : List V} (h : H a = some (.lst xs)) : SqL K H a xs := SqL.of h
end NW
/-! k67 by hand: more rules: comprehensions as filterMap, enumerate over a tuple -/
namespace NW
open PySem PySem.Spec PyProof.Rows L2
section
variable {J : It} {n : Nat} {G : Hp → Prop} {Y : Nat → Hp → V → Hp → Prop}
theorem range_snoc_fm {f : Nat → Option V} {i : Nat} : (List.range (i + 1)).filterMap f = (List.range i).filterMap f ++ (f i).toList := by
  rw [List.range_succ, List.filterMap_append]
  cases h : f i <;> simp [h]
theorem fm_len {f : Nat → Option V} {i : Nat} : ((List.range i).filterMap f).length ≤ i := by
  have := List.length_filterMap_le f (List.range i)
  simpa using this
/-- a comprehension that only adds to the heap: its list is told by f, turn by turn -/
theorem lc_fm (w : Walk J n G Y) {g : TG} {tt : TT} {te : TE} {vs : List Nat} {σ : L2.St} {H1 : Hp} {D : Addr} {Qd : Hp → Prop} (f : Nat → Option V) (hD : H1 D = none) (hn : n ≤ 100000) (hG : ∀ H, Same H1 H → G H) (hY : ∀ i H x H', Y i H x H' → Same H H')
    (hs : ∀ i x H H' (R : V → Hp → Prop) (N : Hp → Prop), i < n → Same H1 H' → Y i H x H' → (∀ y H'', f i = some y → Same H' H'' → R y H'') → (f i = none → ∀ H'', Same H' H'' → N H'') →
      g x (wipe σ vs) H' fun σ2 H2 => wipe σ2 vs = wipe σ vs ∧ tt σ2 H2 fun b H3 => if b = true then te σ2 H3 R else N H3)
    (hd : ∀ H', Same H1 H' → H' D = some (.lst ((List.range n).filterMap f)) → Qd H') :
    ∃ W : Nat → Nat → Hp → Prop, (∃ m, W 0 m (upd H1 D (.lst []))) ∧ ∀ i m H, W i m H →
      (J.stop i H ∧ Qd H) ∨ (J.go i H ∧ ∃ Nx : Hp → Prop, (∀ H', Nx H' → ∃ m', m' < m ∧ W (i + 1) m' H') ∧ ∀ x H', J.yld i H x H' → g x (wipe σ vs) H' fun σ2 H2 => wipe σ2 vs = wipe σ vs ∧ tt σ2 H2 fun b H3 =>
        if b = true then te σ2 H3 fun y H4 => ∃ acc, H4 D = some (.lst acc) ∧ acc.length < sizeLine ∧ Nx (upd H4 D (.lst (acc ++ [y]))) else Nx H3) := by
  refine lc_it w (fun i H => Same H1 H ∧ H D = some (.lst ((List.range i).filterMap f))) ⟨same_new hD, upd_same⟩ (fun i H _ p => hG H p.1) (fun i x H H' hi p y => ?_) (fun H p => hd H p.1 p.2)
  have k := hY i H x H' y
  refine hs i x H H' _ _ hi (p.1.trans k) y (fun y H'' e s => ?_) (fun e H'' s => ?_)
  · refine ⟨_, s _ _ (k _ _ p.2), ?_, ?_, ?_⟩
    · have := fm_len (f := f) (i := i)
      rw [sizeLine_eq]; omega
    · exact fun b o q => by
        have nb : b ≠ D := ne_of_none q hD
        rw [upd_ne nb]
        exact s _ _ (k _ _ (p.1 _ _ q))
    · rw [upd_same, range_snoc_fm, e] <;> rfl
  · refine ⟨p.1.trans (k.trans s), ?_⟩
    rw [s _ _ (k _ _ p.2), range_snoc_fm, e]
    simp
end
theorem range_map_fm {f : Nat → V} {n : Nat} : (List.range n).filterMap (fun i => some (f i)) = (List.range n).map f := by
  rw [← List.filterMap_eq_map]
  rfl
theorem same_of_eq {H H' : Hp} (h : H' = H) : Same H H' := by subst h; exact Same.refl _
theorem yAt_same {xs : List V} : ∀ i H x H', YAt xs i H x H' → Same H H' := fun _ _ _ _ y => same_of_eq y.1
theorem yFn_same {f : Nat → V} : ∀ i H x H', YFn f i H x H' → Same H H' := fun _ _ _ _ y => same_of_eq y.1
theorem yPair_same {xs ys : Nat → Option V} : ∀ i H x H', YPair xs ys i H x H' → Same H H' := fun _ _ _ _ y => by
  obtain ⟨T, x, y, _, h, rfl, _⟩ := y
  exact same_new h

/-! ### enumerate(tuple) -/
/-- the tuple at a as it stands at each turn, each item in a new pair -/
def IteT (K : PySem.W.Frag) (a : Addr) : It :=
  ⟨fun i H => ∃ (xs : List V) (x : V), SqT K H a xs ∧ xs[i]? = some x, fun i H v H' => ∃ T x, v = .ref T ∧ H T = none ∧ H' = upd H T (.tup [.int (i : Nat), x]) ∧ ∀ xs, SqT K H a xs → xs[i]? = some x, fun i H => ∃ xs : List V, SqT K H a xs ∧ xs.length ≤ i⟩
theorem walk_enumT {K : PySem.W.Frag} {a : Addr} {xs : List V} : Walk (IteT K a) xs.length (fun H => SqT K H a xs) (YPair (fun i => some (.int (i : Nat))) (fun i => xs[i]?)) := by
  refine ⟨fun i _ hi q => ⟨xs, xs[i], q, by simp [hi]⟩, fun _ q => ⟨xs, q, Nat.le_refl _⟩, fun i H v H' _ q y => ?_⟩
  obtain ⟨T, x, h1, h2, h3, h4⟩ := y
  exact ⟨T, .int (i : Nat), x, h1, h2, h3, rfl, h4 xs q⟩
set_option maxHeartbeats 1000000 in
theorem meets_enumerate_new1 {v : Value} {o : Obj} {H : Heap → Prop} (B : Begins v o H) :
    Meets (Builtin.«enumerate.__new__» ⟨[.type "enumerate", v], []⟩) (fun _ R s => H s.heap ∧
      R (.ok (.ret (.ref (s.heap.push o).objs.size))) { s with heap := (s.heap.push o).push { cls := .type "enumerate", data := .fields #[.none, .bool false, .ref s.heap.objs.size, rawInt 0, .none, .none] } }) :=
  .of_wp fun prog w A R s h => by
    obtain ⟨hp, g, d, tk, os⟩ := s; obtain ⟨h1, h⟩ := h
    have hsub := sub_enumerate
    have q1 : ∀ {A' : Around} {E : Value → Shared → Prop} {Q : Value → Shared → Prop}, Q (.ref hp.objs.size) ⟨hp.push o, g, d, tk, os⟩ → wpAny (model prog w) A' (pyIter v) Q E ⟨hp, g, d, tk, os⟩ :=
      fun q => B.iter prog w _ _ ⟨hp, g, d, tk, os⟩ _ h1 q
    wp_walk using q1
    refine wpAny_stack_any fun st => wpAny_pure ?_
    split
    · rename_i c _ _ _ _ _
      cases (c == Value.type "enumerate")
      · wp_walk using q1
        exact ⟨_, rfl, h⟩
      · wp_walk using q1
        exact ⟨_, rfl, h⟩
    · wp_walk using q1
      exact ⟨_, rfl, h⟩
theorem call_enumerate_tup {prog : Program} {w : World} {A : Around} {E : Value → Shared → Prop} {s : Shared} {l : Addr} {items : Array Value} {Q : Value → Shared → Prop} (hL : s.heap.IsTuple l items)
    (h : ∀ h', IsEnum h' (s.heap.objs.size + 1) s.heap.objs.size 0 .none → h'.IsTupleIter s.heap.objs.size l 0 → h'.objs.size = s.heap.objs.size + 2 →
      (∀ b o, s.heap.get? b = some o → h'.get? b = some o) → Q (.ref (s.heap.objs.size + 1)) { s with heap := h' }) :
    wpAny (model prog w) A (call (.type "enumerate") [.ref l]) Q E s := by
  refine callType_new F.called_enumerate (by decide) (F.typeCall_enumerate_1 _) (F.newCall_enumerate_1 _) (fun obj => F.args_object_init_2 obj _) F.entry_enumerate_new
    (meets_enumerate_new1 (begins_tuple l items)) ⟨hL, ?_⟩
  have hz : (s.heap.push { cls := .type "tuple_iterator", data := .fields #[.ref l, .int 0 0] }).objs.size = s.heap.objs.size + 1 := Heap.size_push ..
  show _ ∧ _
  rw [hz]
  have he : IsEnum ((s.heap.push { cls := .type "tuple_iterator", data := .fields #[.ref l, .int 0 0] }).push
      { cls := .type "enumerate", data := .fields #[.none, .bool false, .ref s.heap.objs.size, rawInt 0, .none, .none] }) (s.heap.objs.size + 1) s.heap.objs.size 0 .none := by
    have := Heap.get?_push_size (s.heap.push { cls := .type "tuple_iterator", data := .fields #[.ref l, .int 0 0] })
      (o := { cls := .type "enumerate", data := .fields #[.none, .bool false, .ref s.heap.objs.size, rawInt 0, .none, .none] }) rfl
    rw [hz] at this; exact this
  refine ⟨⟨_, he, rfl⟩, h _ he ⟨_, Heap.get?_push_of_some _ (Heap.get?_push_size _ rfl), rfl, rfl⟩ (by rw [Heap.size_push, hz]) fun b o x => Heap.get?_push_of_some _ (Heap.get?_push_of_some _ x)⟩
theorem turn_enumT {P : Program} {w : World} {K : PySem.W.Frag} {elts : List Expr} {kk : Nat} {tpos : Pos} (a e it : Addr) :
    Turn P w K (.Tuple elts kk tpos) (IteT K a) [e, it] e (fun i h => (∃ old, IsEnum h e it ((i : Nat) : Int) old) ∧ h.IsTupleIter it a i ∧ e ≠ it ∧ a ≠ it) where
  mem := by simp
  obj := fun i h st b hb => by
    obtain ⟨⟨old, he⟩, ⟨o, ho, hc, hd⟩, _⟩ := st
    have e' : b = e ∨ b = it := by simpa using hb
    rcases e' with z | z
    · rw [z]; exact ⟨_, he, fun v q => nomatch q⟩
    · rw [z]; exact ⟨o, ho, fun v q => by rw [hd] at q; cases q⟩
  keep := fun i h h' st k => let ⟨⟨old, he⟩, hi, hne⟩ := st; ⟨⟨old, k e (by simp) _ he⟩, hi.at fun o q => k it (by simp) o q, hne⟩
  item := by
    intro X hP hw hK hc i pins s σ H E I hf st hg
    subst hP hw hK
    obtain ⟨⟨old, he⟩, hit, hne, hae⟩ := st
    obtain ⟨xs, x, hq, hx⟩ := hg
    obtain ⟨its, rv, p, hz⟩ := I.tuple hq
    have hlen := rv.length
    have hil0 : i < its.toArray.size := by
      have := (List.getElem?_eq_some_iff.mp hx).1
      simp; omega
    have hel : e < s.heap.objs.size := Heap.lt_size he
    have hil : it < s.heap.objs.size := by obtain ⟨_, q, _⟩ := hit; exact Heap.lt_size q
    have hea : e ≠ a := fun z => by
      obtain ⟨o1, ho1, hc1, _⟩ := id p
      rw [← z, he] at ho1
      have := Option.some.inj ho1
      subst this
      exact absurd hc1 (by simp)
    refine wpAny_pyNext_enum_itemD (Draws.tuple (A := X.A.in1) (I.ok.hd hc) it a hae its.toArray) he ⟨hit, p⟩ hil0 hne (by simp [hne, hea]) fun u h' tk hu ho hst' hT hsz hk => ?_
    obtain ⟨hit', _⟩ := hst'
    have hu' : its[i]? = some u := by simpa using hu
    obtain ⟨u2, hu2, ru⟩ := rv.get hx
    have eu : u2 = u := Option.some.inj (hu2.symm.trans hu')
    subst eu
    refine ⟨_, rfl, wpAny_letOwnedTupleGo_enum (s := { s with heap := h', toks := tk + 1 }) ho fun h'' he' sb => ?_⟩
    have hT2 : h''.get? s.heap.objs.size = some { cls := .type "tuple", data := .seq #[.int i tk, u2] } := (sb.2 _ (Nat.ne_of_gt hel)).trans hT
    have new : ObjOk X.prog X.w (upd H s.heap.objs.size (.tup [.int (i : Nat), x])) h'' s.heap.objs.size (.tup [.int (i : Nat), x]) :=
      ⟨by show 2 ≤ sizeLine; decide, [.int i tk, u2], .cons ⟨_, rfl⟩ (.cons ru .nil), ⟨_, hT2, rfl, _, rfl⟩⟩
    have I1 : Inv X pins σ (upd H s.heap.objs.size (.tup [.int (i : Nat), x])) { s with heap := h'', toks := tk + 1 } :=
      I.turnedNew (ch := [e, it]) (fun b ob hb q => (sb.2 b (fun z => hb (by simp [z]))).trans (hk b ob (fun z => hb (by simp [z])) (fun z => hb (by simp [z])) q)) hf (Nat.le_refl _) new
    refine ⟨.ref s.heap.objs.size, _, I1, rfl, ⟨_, x, rfl, I.hok.fresh (Nat.le_refl _), rfl, fun ys hy => by rw [I.tuple_inj hy hq]; exact hx⟩, ⟨⟨u2, ?_⟩, hit'.at fun o q => (sb.2 it (Ne.symm hne)).trans q, hne, hae⟩, fun b hb => ?_⟩
    · have e1 : ((i + 1 : Nat) : Int) = (i : Int) + 1 := by omega
      rw [e1]; exact he'
    · have hb' : b < s.heap.objs.size := by
        have e' : b = e ∨ b = it := by simpa using hb
        rcases e' with z | z
        · rw [z]; exact hel
        · rw [z]; exact hil
      rw [upd_ne (Nat.ne_of_lt hb')]
      exact (hf b hb).1
  done := by
    intro X hP hw hK hc i pins s σ H E I hf st hg
    subst hP hw hK
    obtain ⟨⟨old, he⟩, hit, hne, hae⟩ := st
    obtain ⟨xs, hq, hx⟩ := hg
    obtain ⟨its, rv, p, hz⟩ := I.tuple hq
    obtain ⟨f0, f1, f2, f3, f4, f5⟩ := hf it (by simp)
    have hl := rv.length
    have hT : s.TypeIs (.ref e) "enumerate" := ⟨_, he, rfl⟩
    unfold pyNext
    refine wpAny_bind (wpAny_attempt (wpAny_callSpecial?_slot (name := Str.ofString "__next__") hT F.slot_enumerate_next
      (wpAny_call_entry F.slot_enumerate_next hT F.entry_enumerate_next ?_ (F.args_enumerate_next_1 _))))
    show wpAny _ _ (field (.ref e) 2 >>= _) _ _ _
    refine wpAny_bind (wpAny_field he rfl (x := .ref it) rfl ?_)
    refine wpAny_bind (wpAny_nextOf_tuple_end (I.ok.hd hc) hit p (by simp; omega) fun h' x he' hx' => ?_)
    obtain ⟨o, ho, hcc⟩ := hx'
    refine wpAny_bind (wpAny_isInstance (T := "StopIteration") (b := true) ⟨o, ho, hcc⟩ isSubtype_stop ?_)
    exact wpAny_pure ⟨rfl, I.turned (t' := s.toks) (fun b o hb q => he' b o hb q) f0 f1 f3 f4 f5⟩
  self := fun A i s Q E st h => let ⟨⟨_, he⟩, _⟩ := st; wpAny_pyIter_enum he h
def iEnumT (K : PySem.W.Frag) (ta : TA) : TI := fun σ H R => ta σ H fun vs H1 => ∃ a xs, vs = [.ref a] ∧ SqT K H1 a xs ∧ R (IteT K a) H1
theorem pi_enumT {X : Cx} {e : Expr} {ta : TA} {p pos tpos : Pos} {elts : List Expr} {kk : Nat} (hg : Gl X "enumerate") (hm : X.mg "enumerate" = none) (ha : PA X [e] ta) (hs : starEach [e] X.env = [(false, eval e X.env)] := by rfl) :
    PI X (.Tuple elts kk tpos) (.Call (.Name "enumerate" p) [e] [] pos) (iEnumT X.K ta) := by
  refine ⟨fun pins s σ H R I h => ?_⟩
  refine Call_ (ld_blt I hg hm boot_enumerate (PyProof.Rows.callWith_type1 (thn (ha.run pos pins s σ H _ I h) fun us s1 ⟨vs, H1, I1, r1, q1⟩ => ?_) hs rfl))
  obtain ⟨a, xs, ex, hq, q⟩ := q1
  subst ex
  cases r1 with
  | cons r rr =>
    cases rr
    cases r
    obtain ⟨its, rv, p', hz⟩ := I1.tuple hq
    have hal : a < s1.heap.objs.size := by obtain ⟨_, q, _⟩ := id p'; exact Heap.lt_size q
    refine call_enumerate_tup p' fun h' he hit hsz hk => wpAny_pyIter_enum he ?_
    have I2 : Inv X pins σ H1 { s1 with heap := h' } := I1.kept (t' := s1.toks) hk
    refine ⟨s1.heap.objs.size + 1, [s1.heap.objs.size + 1, s1.heap.objs.size], _, _, H1, rfl, I2, turn_enumT a (s1.heap.objs.size + 1) s1.heap.objs.size, ⟨⟨.none, he⟩, hit, Nat.succ_ne_self _, Nat.ne_of_lt hal⟩, fun b hb => ?_, q⟩
    have e' : b = s1.heap.objs.size + 1 ∨ b = s1.heap.objs.size := by simpa using hb
    have hle : s1.heap.objs.size ≤ b := by
      rcases e' with z | z
      · rw [z]; exact Nat.le_add_right _ _
      · rw [z]; exact Nat.le_refl _
    exact I1.fpOk hle (I1.hok.fresh hle)
/-! ### zip(tuple, tuple) -/
theorem walk_zipT {K : PySem.W.Frag} {a b : Addr} {xs ys : List V} {n : Nat} (hn : n = min xs.length ys.length) : Walk (RZ.ItzT K a b) n (fun H => SqT K H a xs ∧ SqT K H b ys) (YPair (fun i => xs[i]?) (fun i => ys[i]?)) := by
  subst hn
  refine ⟨fun i _ hi q => ?_, fun _ q => ⟨xs, ys, q.1, q.2, by omega⟩, fun i H v H' _ q y => ?_⟩
  · have h1 : i < xs.length := by omega
    have h2 : i < ys.length := by omega
    exact ⟨xs, ys, xs[i], ys[i], q.1, q.2, by simp [h1], by simp [h2]⟩
  · obtain ⟨T, x, z, h1, h2, h3, h4, h5⟩ := y
    exact ⟨T, x, z, h1, h2, h3, h4 xs q.1, h5 ys q.2⟩

/-! ### rules whose reading names K itself (for comprehensions) -/
section
variable (K : PySem.W.Frag) {X : Cx}
theorem ix_tupK (h : X.K = K := by rfl) : IxR X (rIxT K) := by subst h; exact ix_tup
theorem ix_listK (h : X.K = K := by rfl) : IxR X (rIxL K) := by subst h; exact ix_list
theorem op_in_seqK (h : X.K = K := by rfl) : OpR X (compareOp .In) (rIn K false) := by subst h; exact op_in_seq
theorem op_notIn_seqK (h : X.K = K := by rfl) : OpR X (compareOp .NotIn) (rIn K true) := by subst h; exact op_notIn_seq
theorem call_isiK' (h : X.K = K := by rfl) : CallR X (.builtin "isinstance") (rIsi K) := by subst h; exact call_isi
theorem call_len_seqK (h : X.K = K := by rfl) : CallR X (.builtin "len") (fun xs H Q => ∃ p ys, xs = [.ref p] ∧ (SqL K H p ys ∨ SqT K H p ys) ∧ Q (.int ys.length) H) := by subst h; exact call_len_seq
theorem op_neDK (hu : X.A.units + 64 < cLine) (h : X.K = K := by rfl) : OpR X (compareOp .NotEq) (rNeD K) := by subst h; exact op_neD hu
theorem pg_tupK (n : Nat) {es : List Expr} {k : Nat} {pos : Pos} {t : TGs} (hc : X.calm = true) (q : PGs X es t) (hK : X.K = K := by rfl)
    (hn : (assignEach es X.env).length = n := by rfl) (hst : (assignEach es X.env).findIdx? (·.1) = none := by rfl) : PG X (.Tuple es k pos) (gTup K n t) := by
  subst hK
  exact pg_tup hc q hn hst
end
end NW
/-! k67 by hand, 1: fractions, ends, gains -/
namespace NW
open PySem PySem.Spec PyProof.Rows L2
/-- the built-in names that the text leaves alone -/
structure Bi (mg : Str → Option Value) : Prop where
  b_len : mg "len" = none
  b_abs : mg "abs" = none
  b_min : mg "min" = none
  b_sum : mg "sum" = none
  b_all : mg "all" = none
  b_set : mg "set" = none
  b_sorted : mg "sorted" = none
  b_isinstance : mg "isinstance" = none
  b_tuple : mg "tuple" = none
  b_list : mg "list" = none
  b_range : mg "range" = none
  b_enumerate : mg "enumerate" = none
  b_zip : mg "zip" = none
  b_int : mg "int" = none
  b_bool : mg "bool" = none
  b_ValueError : mg "ValueError" = none

/-! ### plain -/
theorem gcd_step {a b : Int} (ha : 0 ≤ a) (hb : 0 ≤ b) : Int.gcd b (a % b) = Int.gcd a b := by
  obtain ⟨m, rfl⟩ := Int.eq_ofNat_of_zero_le ha
  obtain ⟨n, rfl⟩ := Int.eq_ofNat_of_zero_le hb
  rw [← Int.natCast_emod]
  unfold Int.gcd
  simp only [Int.natAbs_natCast]
  rw [Nat.gcd_comm m n, Nat.gcd_comm n (m % n)]
  exact (Nat.gcd_rec n m).symm
theorem pair_le : ([V.int 0, V.int 0] : List V).length ≤ sizeLine := by show 2 ≤ sizeLine; decide
section
variable {P : Program} {w : World} {K : PySem.W.Frag} {mg : Str → Option Value} {base : Heap}

abbrev s_less : Stmt := top 16
theorem sc_less : FnScope ["one", "other"] ["one", "other"] (defScope s_less) := ⟨rfl, rfl, rfl, by decide +kernel, rfl, by decide +kernel, by decide +kernel⟩
def sp_less : Sp := fun vs H Q _ => ∃ (v u : V) (t b t' b' : Int), vs = [v, u] ∧ FrV H v t b ∧ FrV H u t' b' ∧ (-(2 ^ 64) < t ∧ t < 2 ^ 64) ∧ (-(2 ^ 64) < t' ∧ t' < 2 ^ 64) ∧ Q (.bl (decide (t * b' < t' * b))) H
theorem r_less (D : Df K mg "less" s_less) : Rdy P w K mg base "less" 1 ["one", "other"] sp_less := by
  refine rdy D sc_less (fun _ _ _ _ _ _ us hl => match us, hl with | [_, _], _ => rfl) (fun vs H Q E h => ?_) (fun f cdv A outer s H vs Q E hr h => ?_)
  · obtain ⟨v, u, t, b, t', b', rfl, _⟩ := h
    rfl
  obtain ⟨_, _, t, b, t', b', rfl, ⟨q1, rfl, h1⟩, ⟨q2, rfl, h2⟩, l1, l2, q⟩ := h
  refine ⟨_, (pss_one (ps_ret (pe_cmpR op_lt (pe_op op_mul (pe_ix ix_tup (pv 0) pe_int (fun _ _ => rfl)) (pe_ix ix_tup (pv 1) pe_int (fun _ _ => rfl))) (pe_op op_mul (pe_ix ix_tup (pv 1) pe_int (fun _ _ => rfl)) (pe_ix ix_tup (pv 0) pe_int (fun _ _ => rfl))) (nomark _)))), ?_⟩
  refine ⟨_, rfl, _, _, _, _, rfl, rfl, SqT.of h1, atI_nat rfl, _, rfl, _, _, _, _, rfl, rfl, SqT.of h2, atI_nat rfl, _, _, rfl, rfl, .inl l1, ?_⟩
  refine ⟨_, rfl, _, _, _, _, rfl, rfl, SqT.of h2, atI_nat rfl, _, rfl, _, _, _, _, rfl, rfl, SqT.of h1, atI_nat rfl, _, _, rfl, rfl, .inl l2, _, _, rfl, rfl, q⟩

abbrev s_common_divisor : Stmt := top 12
theorem sc_common_divisor : FnScope ["one", "other"] ["one", "other"] (defScope s_common_divisor) := ⟨rfl, rfl, rfl, by decide +kernel, rfl, by decide +kernel, by decide +kernel⟩
def sp_gcd : Sp := fun vs H Q _ => ∃ a b : Int, vs = [.int a, .int b] ∧ 0 ≤ a ∧ 0 ≤ b ∧ Q (.int (Int.gcd a b : Nat)) H
theorem r_common_divisor (D : Df K mg "common_divisor" s_common_divisor) : Rdy P w K mg base "common_divisor" 1 ["one", "other"] sp_gcd := by
  refine rdy D sc_common_divisor (fun _ _ _ _ _ _ us hl => match us, hl with | [_, _], _ => rfl) (fun vs H Q E h => ?_) (fun f cdv A outer s H vs Q E hr h => ?_)
  · obtain ⟨a, b, rfl, _⟩ := h
    rfl
  obtain ⟨a, b, rfl, ha, hb, q⟩ := h
  refine ⟨_, (pss_cons (ps_while PassesOwn.never (pt_cmpR op_gt (pv 1) pe_int (nomark _))
      (pss_one (ps_par (i := 0) (j := 1) rfl sc_common_divisor.nd rfl rfl (by decide) rfl rfl (pa_cons (pv 1) (pa_cons (pe_op op_mod (pv 0) (pv 1)) pa_nil)) (by rfl))))
    (pss_one (ps_ret (pv 0)))), ?_⟩
  refine ⟨fun m σ H' => ∃ x y : Int, σ = [some (.int x), some (.int y)] ∧ H = H' ∧ 0 ≤ x ∧ 0 ≤ y ∧ Int.gcd x y = Int.gcd a b ∧ m = y.toNat, ⟨_, a, b, rfl, rfl, ha, hb, rfl, rfl⟩, ?_⟩
  rintro m _ _ ⟨x, y, rfl, rfl, hx, hy, hg, rfl⟩
  refine ⟨_, rfl, _, _, rfl, rfl, _, rfl, ?_⟩
  refine ite2 (fun c => ?_) (fun c => ?_)
  · have c' : y > 0 := of_decide_eq_true c
    refine ⟨fun σ' H' => ∃ m', m' < y.toNat ∧ ∃ x y : Int, σ' = [some (.int x), some (.int y)] ∧ H = H' ∧ 0 ≤ x ∧ 0 ≤ y ∧ Int.gcd x y = Int.gcd a b ∧ m' = y.toNat, fun _ _ h => h, ?_⟩
    refine ⟨_, rfl, _, rfl, _, rfl, _, _, rfl, rfl, c', _, _, rfl, ?_⟩
    have h1 := Int.emod_nonneg x (show y ≠ 0 by omega)
    have h2 := Int.emod_lt_of_pos x c'
    exact ⟨_, by omega, y, x % y, rfl, rfl, hy, h1, by rw [gcd_step hx hy, hg], rfl⟩
  · have c' : ¬ y > 0 := of_decide_eq_false (Bool.eq_false_iff.mpr c)
    have y0 : y = 0 := by omega
    subst y0
    refine ⟨_, rfl, ?_⟩
    have e : V.int x = V.int (Int.gcd a b : Nat) := by
      rw [← hg, Int.gcd_zero_right]
      congr 1; omega
    rw [e]
    exact q

abbrev s_fraction : Stmt := top 14
theorem sc_fraction : FnScope ["top", "bottom", "common"] ["top", "bottom"] (defScope s_fraction) := ⟨rfl, rfl, rfl, by decide +kernel, rfl, by decide +kernel, by decide +kernel⟩
def sp_fraction : Sp := fun vs H Q _ => ∃ t b : Int, vs = [.int t, .int b] ∧ 0 < b ∧ b < 2 ^ 8000 ∧
  ∀ p, H p = none → Q (.ref p) (upd H p (.tup [.int (t / (Int.gcd t b : Nat)), .int (b / (Int.gcd t b : Nat))]))
theorem bits_of {b : Int} {k : Nat} (h0 : 0 < b) (h : b < 2 ^ k) : b.natAbs < 2 ^ k := by
  have : ((b.natAbs : Nat) : Int) < ((2 ^ k : Nat) : Int) := by
    rw [Int.natCast_pow]
    have e : ((b.natAbs : Nat) : Int) = b := by omega
    rw [e]
    exact h
  omega
theorem gcd_pos_of {t b : Int} (hb : 0 < b) : 0 < Int.gcd t b := Int.gcd_pos_of_ne_zero_right _ (by omega)
theorem gcd_le_of {t b : Int} (hb : 0 < b) : ((Int.gcd t b : Nat) : Int) ≤ b := Int.le_of_dvd hb (Int.gcd_dvd_right ..)
theorem abs_if (i : Int) : (if i < 0 then -i else i) = (i.natAbs : Int) := by split <;> omega
theorem r_fraction (D : Df K mg "fraction" s_fraction) (T : Bi mg) (R_common_divisor : Rdy P w K mg base "common_divisor" 1 ["one", "other"] sp_gcd) : Rdy P w K mg base "fraction" 2 ["top", "bottom"] sp_fraction := by
  refine rdy D sc_fraction (fun _ _ _ _ _ _ us hl => match us, hl with | [_, _], _ => rfl) (fun vs H Q E h => ?_) (fun f cdv A outer s H vs Q E hr h => ?_)
  · obtain ⟨a, b, rfl, _⟩ := h
    rfl
  obtain ⟨t, b, rfl, hb, hz, q⟩ := h
  refine ⟨_, (pss_cons (ps_set (i := 2) sc_fraction.nd rfl (Or.inl rfl) (pe_cl R_common_divisor hr (pa_cons (pe_callB call_abs rfl T.b_abs (by decide +kernel) (pa_cons (pv 0) pa_nil)) (pa_cons (pe_callB call_abs rfl T.b_abs (by decide +kernel) (pa_cons (pv 1) pa_nil)) pa_nil))))
    (pss_cons (ps_if (pt_cmpR op_lt (pv 1) pe_int (nomark _)) (pss_one (ps_set (i := 2) sc_fraction.nd rfl (Or.inl rfl) (pe_op op_sub pe_int (pv 2)))) pss_nil)
    (pss_one (ps_ret (pe_tup (pa_cons (pe_op op_fdivW (pv 0) (pv 2)) (pa_cons (pe_op op_fdivW (pv 1) (pv 2)) pa_nil))))))), ?_⟩
  refine ⟨_, rfl, _, rfl, _, rfl, _, rfl, _, _, rfl, by split <;> omega, by split <;> omega, ?_⟩
  refine ⟨_, rfl, _, _, rfl, rfl, _, rfl, ?_⟩
  rw [abs_if, abs_if]
  have e : Int.gcd (t.natAbs : Int) (b.natAbs : Int) = Int.gcd t b := by
    unfold Int.gcd
    simp
  rw [e]
  have c : decide (b < 0) = false := decide_eq_false (by omega)
  rw [c]
  refine iteF ?_
  have g0 := gcd_pos_of (t := t) hb
  have g1 := gcd_le_of (t := t) hb
  have hw : CDivW t ((Int.gcd t b : Nat) : Int) := wide_div (by omega) (b := 8000) (wide_le (j := b) (by omega) g1 (bits_of hb hz)) (by omega) (by omega)
  have hw' : CDivW b ((Int.gcd t b : Nat) : Int) := hw
  exact ⟨_, rfl, _, rfl, _, _, rfl, rfl, hw, _, rfl, _, rfl, _, _, rfl, rfl, hw', pair_le, q⟩
end
end NW
/-! k67 by hand, 2 -/
namespace NW
open PySem PySem.Spec PyProof.Rows L2
section
variable {P : Program} {w : World} {K : PySem.W.Frag} {mg : Str → Option Value} {base : Heap}
abbrev s_is_number : Stmt := top 11
theorem sc_is_number : FnScope ["thing"] ["thing"] (defScope s_is_number) := ⟨rfl, rfl, rfl, by decide +kernel, rfl, by decide +kernel, by decide +kernel⟩
def sp_is_number : Sp := fun vs H Q _ => ∃ i : Int, vs = [.int i] ∧ Q (.bl true) H
theorem r_is_number (D : Df K mg "is_number" s_is_number) (T : Bi mg) : Rdy P w K mg base "is_number" 1 ["thing"] sp_is_number := by
  refine rdy D sc_is_number (fun _ _ _ _ _ _ us hl => match us, hl with | [_], _ => rfl) (fun vs H Q E h => ?_) (fun f cdv A outer s H vs Q E hr h => ?_)
  · obtain ⟨i, rfl, _⟩ := h
    rfl
  obtain ⟨i, rfl, q⟩ := h
  refine ⟨_, (pss_one (ps_ret (pe_and (pe_callB call_isi rfl T.b_isinstance (by decide +kernel) (pa_cons (pv 0) (pa_cons (pe_bltn (v := .ty "int") rfl T.b_int (by decide +kernel) rfl) pa_nil))) (pe_one (pe_not (pe_callB call_isi rfl T.b_isinstance (by decide +kernel) (pa_cons (pv 0) (pa_cons (pe_bltn (v := .ty "bool") rfl T.b_bool (by decide +kernel) rfl) pa_nil)))))))), ?_⟩
  refine ⟨_, rfl, _, _, _, _, true, rfl, .ty _, .base (.int _), kit_ty (by decide +kernel), _, rfl, iteT ?_⟩
  exact ⟨_, rfl, _, _, _, _, false, rfl, .ty _, .base (.int _), kit_ty (by decide +kernel), _, rfl, q⟩

abbrev s_is_fraction : Stmt := top 13
theorem sc_is_fraction : FnScope ["thing"] ["thing"] (defScope s_is_fraction) := ⟨rfl, rfl, rfl, by decide +kernel, rfl, by decide +kernel, by decide +kernel⟩
def sp_is_fraction : Sp := fun vs H Q _ => ∃ (v : V) (t b : Int), vs = [v] ∧ FrV H v t b ∧ 0 < b ∧ Int.gcd t b = 1 ∧ Q (.bl true) H
theorem r_is_fraction (D : Df K mg "is_fraction" s_is_fraction) (T : Bi mg) (R_is_number : Rdy P w K mg base "is_number" 1 ["thing"] sp_is_number) (R_common_divisor : Rdy P w K mg base "common_divisor" 1 ["one", "other"] sp_gcd) :
    Rdy P w K mg base "is_fraction" 2 ["thing"] sp_is_fraction := by
  refine rdy D sc_is_fraction (fun _ _ _ _ _ _ us hl => match us, hl with | [_], _ => rfl) (fun vs H Q E h => ?_) (fun f cdv A outer s H vs Q E hr h => ?_)
  · obtain ⟨v, t, b, rfl, _⟩ := h
    rfl
  obtain ⟨_, t, b, rfl, ⟨q1, rfl, h1⟩, hb, hg, q⟩ := h
  refine ⟨_, (pss_cons (ps_if (PW.pt (pw_or (pt_not (pt_val (pe_callB call_isi rfl T.b_isinstance (by decide +kernel) (pa_cons (pv 0) (pa_cons (pe_bltn (v := .ty "tuple") rfl T.b_tuple (by decide +kernel) rfl) pa_nil))))) (pw_or (pt_cmpR op_ne (pe_callB call_len_seq rfl T.b_len PySem.boot_len (pa_cons (pv 0) pa_nil)) pe_int (nomark _)) (pw_or (pt_not (pt_val (pe_cl R_is_number hr (pa_cons (pe_ix ix_tup (pv 0) pe_int (fun _ _ => rfl)) pa_nil)))) (pw_or1 (pt_not (pt_val (pe_cl R_is_number hr (pa_cons (pe_ix ix_tup (pv 0) pe_int (fun _ _ => rfl)) pa_nil))))))))) (pss_one (ps_ret pe_bl)) pss_nil)
    (pss_one (ps_ret (pe_and (pe_cmpR op_gt (pe_ix ix_tup (pv 0) pe_int (fun _ _ => rfl)) pe_int (nomark _)) (pe_one (pe_cmpR op_eq (pe_cl R_common_divisor hr (pa_cons (pe_callB call_abs rfl T.b_abs (by decide +kernel) (pa_cons (pe_ix ix_tup (pv 0) pe_int (fun _ _ => rfl)) pa_nil)) (pa_cons (pe_ix ix_tup (pv 0) pe_int (fun _ _ => rfl)) pa_nil))) pe_int (nomark _))))))), ?_⟩
  refine ⟨_, rfl, _, _, _, _, true, rfl, .ty _, .base (.tup h1), kit_ty (by decide +kernel), _, rfl, iteF ?_⟩
  refine ⟨_, rfl, _, _, rfl, .inr (SqT.of h1), rfl, _, rfl, ?_⟩
  refine iteNS (by rfl) ?_
  refine ⟨_, rfl, _, _, _, _, rfl, rfl, SqT.of h1, atI_nat rfl, _, rfl, _, rfl, iteF ?_⟩
  refine ⟨_, rfl, _, _, _, _, rfl, rfl, SqT.of h1, atI_nat rfl, _, rfl, _, rfl, iteF ?_⟩
  refine ⟨_, rfl, _, _, _, _, rfl, rfl, SqT.of h1, atI_nat rfl, _, _, rfl, rfl, _, rfl, ?_⟩
  rw [decide_eq_true (show b > 0 from hb)]
  refine iteT ?_
  refine ⟨_, rfl, _, _, _, _, rfl, rfl, SqT.of h1, atI_nat rfl, _, rfl, _, rfl, _, _, _, _, rfl, rfl, SqT.of h1, atI_nat rfl, _, _, rfl, by split <;> omega, by omega, rfl, ?_⟩
  have e : Int.gcd (if t < 0 then -t else t) b = 1 := by
    rw [abs_if, ← hg]
    unfold Int.gcd
    simp
  rw [e]
  exact q

abbrev s_is_number_of_work : Stmt := top 28
theorem sc_is_number_of_work : FnScope ["many", "thing"] ["many", "thing"] (defScope s_is_number_of_work) := ⟨rfl, rfl, rfl, by decide +kernel, rfl, by decide +kernel, by decide +kernel⟩
def sp_is_number_of_work : Sp := fun vs H Q _ => ∃ n j : Nat, vs = [nv n, nv j] ∧ j < n ∧ Q (.bl true) H
theorem r_is_number_of_work (D : Df K mg "is_number_of_work" s_is_number_of_work) (T : Bi mg) : Rdy P w K mg base "is_number_of_work" 1 ["many", "thing"] sp_is_number_of_work := by
  refine rdy D sc_is_number_of_work (fun _ _ _ _ _ _ us hl => match us, hl with | [_, _], _ => rfl) (fun vs H Q E h => ?_) (fun f cdv A outer s H vs Q E hr h => ?_)
  · obtain ⟨n, j, rfl, _⟩ := h
    rfl
  obtain ⟨n, j, rfl, hj, q⟩ := h
  refine ⟨_, (pss_one (ps_ret (pe_and (pe_callB call_isi rfl T.b_isinstance (by decide +kernel) (pa_cons (pv 1) (pa_cons (pe_bltn (v := .ty "int") rfl T.b_int (by decide +kernel) rfl) pa_nil))) (pe_and (pe_not (pe_callB call_isi rfl T.b_isinstance (by decide +kernel) (pa_cons (pv 1) (pa_cons (pe_bltn (v := .ty "bool") rfl T.b_bool (by decide +kernel) rfl) pa_nil)))) (pe_one (pe_chain op_le op_lt pe_int (pv 1) (pv 0))))))), ?_⟩
  refine ⟨_, rfl, _, _, _, _, true, rfl, .ty _, .base (.int _), kit_ty (by decide +kernel), _, rfl, iteT ?_⟩
  refine ⟨_, rfl, _, _, _, _, false, rfl, .ty _, .base (.int _), kit_ty (by decide +kernel), _, rfl, _, rfl, iteT ?_⟩
  refine ⟨_, rfl, _, _, rfl, rfl, _, rfl, ?_⟩
  rw [decide_eq_true (show (0 : Int) ≤ (j : Int) by omega)]
  refine iteT ⟨_, rfl, _, _, rfl, rfl, ?_⟩
  have e : Q (.bl (decide ((j : Int) < (n : Int)))) H := by
    rw [decide_eq_true (show (j : Int) < (n : Int) by omega)]
    exact q
  exact e

/-! ### works -/
theorem Works.all {H : Hp} {a : Addr} {c : Int} {n : Nat} {p w : Nat → Int} (h : Works H a c n p w) : ∃ vs : List V, H a = some (.tup vs) ∧ vs.length = n ∧
    ∀ i v, vs[i]? = some v → ∃ b q, v = .ref b ∧ H b = some (.tup [.int (p i), .int c, .ref q]) ∧ H q = some (.tup [.str "ends", .int (w i)]) := by
  obtain ⟨vs, h1, h2, h3⟩ := h.ex
  refine ⟨vs, h1, h2, fun i v hv => ?_⟩
  obtain ⟨b, q, e1, e2, e3⟩ := h3 i (by have := (List.getElem?_eq_some_iff.mp hv).1; omega)
  exact ⟨b, q, Option.some.inj (hv.symm.trans e1), e2, e3⟩
abbrev s_same_coming : Stmt := top 18
theorem sc_same_coming : FnScope ["works", "first", "length", "coming", "cost"] ["works"] (defScope s_same_coming) := ⟨rfl, rfl, rfl, by decide +kernel, rfl, by decide +kernel, by decide +kernel⟩
def sp_same_coming : Sp := fun vs H Q _ => ∃ (a : Addr) (c : Int) (n : Nat) (p w : Nat → Int), vs = [.ref a] ∧ Works H a c n p w ∧ ∀ H', Same H H' → Q (.int c) H'
theorem yes {σ : L2.St} {H : Hp} {Q : Bool → Hp → Prop} (h : Q true H) : tYes σ H Q := h
theorem fm_rep {n : Nat} : ((List.range n).filterMap fun _ => some (V.bl true)) = (List.replicate n true).map V.bl := by
  rw [range_map_fm, List.map_replicate]
  apply List.ext_getElem
  · simp
  · intro i h1 h2; simp
theorem all_rep {n : Nat} : (List.replicate n true).all id = true := by simp
theorem r_same_coming (D : Df K mg "same_coming" s_same_coming) (T : Bi mg) : Rdy P w K mg base "same_coming" 1 ["works"] sp_same_coming := by
  refine rdy D sc_same_coming (fun _ _ _ _ _ _ us hl => match us, hl with | [_], _ => rfl) (fun vs H Q E h => ?_) (fun f cdv A outer s H vs Q E hr h => ?_)
  · obtain ⟨a, c, n, p, w, rfl, _⟩ := h
    rfl
  obtain ⟨a, c, n, p, w, rfl, hW, q⟩ := h
  refine ⟨_, (pss_cons (ps_set (i := 1) sc_same_coming.nd rfl (Or.inr rfl) (pe_ix ix_tup (pe_ix ix_tup (pv 0) pe_int (fun _ _ => rfl)) pe_int (fun _ _ => rfl)))
    (pss_one (ps_ret (pe_ifExp (pt_val (pe_callB (cr_all rfl) rfl T.b_all (by decide +kernel) (pa_cons (pe_lc (own := [("length", 2), ("coming", 3), ("cost", 4)]) rfl sc_same_coming.nd (pi_tup (pv 0)) (blkOk_by (N := ["works", "first", "length", "coming", "cost"]) (sc := defScope s_same_coming) (by decide +kernel)) (fun _ _ _ _ _ => (pg_tupK K 3 rfl (pgs_cons (pg_name (i := 2) sc_same_coming.nd rfl (Or.inl rfl) (Or.inr rfl)) (pgs_cons (pg_name (i := 3) sc_same_coming.nd rfl (Or.inl rfl) (Or.inr rfl)) (pgs_cons (pg_name (i := 4) sc_same_coming.nd rfl (Or.inl rfl) (Or.inr rfl)) pgs_nil))))) (fun _ _ _ _ _ => pts_nil) (fun _ _ _ _ _ => (pe_cmpR op_eq (pv 3) (pv 1) (nomark _)))) pa_nil))) (pv 1) pe_non)))), ?_⟩
  obtain ⟨vs, h1, h2, h3⟩ := hW.all
  have n1 := hW.n1
  have e0 : vs[0]? = some vs[0] := List.getElem?_eq_getElem (by omega)
  obtain ⟨b0, q0, ev0, hb0, _⟩ := h3 0 _ e0
  refine ⟨_, rfl, _, _, _, _, rfl, rfl, SqT.of h1, atI_nat e0, _, _, _, _, ev0, rfl, SqT.of hb0, atI_nat rfl, ?_⟩
  refine ⟨_, rfl, a, rfl, ⟨_, SqT.of h1⟩, fun D hD => ?_⟩
  refine lc_fm walk_tup (fun _ => some (.bl true)) hD (by rw [h2]; have := hW.n8; omega) (fun H' k => SqT.of (k _ _ h1)) yAt_same (fun i x H0 H' R N hi k y r1 _ => ?_) (fun H' k hl => ?_)
  · obtain ⟨b, qq, ev, hb, _⟩ := h3 i x y.2
    subst ev
    refine ⟨_, _, rfl, SqT.of (k _ _ hb), rfl, ?_⟩
    refine ⟨_, _, rfl, _, _, rfl, _, _, rfl, rfl, rfl, yes (iteT ⟨_, rfl, _, rfl, rfl, ?_⟩)⟩
    have e : R (.bl (decide (V.int c = V.int c))) H' := by
      rw [decide_eq_true rfl]
      exact r1 _ _ rfl (Same.refl _)
    exact e
  · refine ⟨D, List.replicate vs.length true, rfl, SqL.of (by rw [hl, fm_rep]), _, rfl, ?_⟩
    rw [all_rep]
    exact iteT ⟨_, rfl, q _ k⟩

abbrev s_ask_ends : Stmt := top 20
theorem sc_ask_ends : FnScope ["works", "length", "coming", "cost"] ["works"] (defScope s_ask_ends) := ⟨rfl, rfl, rfl, by decide +kernel, rfl, by decide +kernel, by decide +kernel⟩
def sp_ask_ends : Sp := fun vs H Q _ => ∃ (a : Addr) (c : Int) (n : Nat) (p w : Nat → Int), vs = [.ref a] ∧ Works H a c n p w ∧ ∀ H', Same H H' → Q .non H'
theorem r_ask_ends (D : Df K mg "ask_ends" s_ask_ends) (T : Bi mg) (R_same_coming : Rdy P w K mg base "same_coming" 1 ["works"] sp_same_coming) : Rdy P w K mg base "ask_ends" 2 ["works"] sp_ask_ends := by
  refine rdy D sc_ask_ends (fun _ _ _ _ _ _ us hl => match us, hl with | [_], _ => rfl) (fun vs H Q E h => ?_) (fun f cdv A outer s H vs Q E hr h => ?_)
  · obtain ⟨a, c, n, p, w, rfl, _⟩ := h
    rfl
  obtain ⟨a, c, n, p, w, rfl, hW, q⟩ := h
  refine ⟨_, (pss_cons (ps_if (pt_cmpR op_isN (pe_cl R_same_coming hr (pa_cons (pv 0) pa_nil)) pe_non (nomark _)) (pss_one ps_never) pss_nil)
    (pss_one (ps_if (pt_not (pt_val (pe_callB (cr_all rfl) rfl T.b_all (by decide +kernel) (pa_cons (pe_lc (own := [("length", 1), ("coming", 2), ("cost", 3)]) rfl sc_ask_ends.nd (pi_tup (pv 0)) (blkOk_by (N := ["works", "length", "coming", "cost"]) (sc := defScope s_ask_ends) (by decide +kernel)) (fun _ _ _ _ _ => (pg_tupK K 3 rfl (pgs_cons (pg_name (i := 1) sc_ask_ends.nd rfl (Or.inl rfl) (Or.inr rfl)) (pgs_cons (pg_name (i := 2) sc_ask_ends.nd rfl (Or.inl rfl) (Or.inr rfl)) (pgs_cons (pg_name (i := 3) sc_ask_ends.nd rfl (Or.inl rfl) (Or.inr rfl)) pgs_nil))))) (fun _ _ _ _ _ => pts_nil) (fun _ _ _ _ _ => (pe_cmpR op_eq (pe_ix (ix_tupK K) (pv 3) pe_int (fun _ _ => rfl)) pe_str (nomark _)))) pa_nil)))) (pss_one ps_never) pss_nil))), ?_⟩
  refine ⟨_, rfl, a, c, n, p, w, rfl, hW, fun H1 k1 => ?_⟩
  refine ⟨rfl, _, rfl, iteF ?_⟩
  have hW1 := hW.kt (KT.same k1)
  obtain ⟨vs, h1, h2, h3⟩ := hW1.all
  refine ⟨_, rfl, a, rfl, ⟨_, SqT.of h1⟩, fun D hD => ?_⟩
  refine lc_fm walk_tup (fun _ => some (.bl true)) hD (by rw [h2]; have := hW.n8; omega) (fun H' k => SqT.of (k _ _ h1)) yAt_same (fun i x H0 H' R N hi k y r1 _ => ?_) (fun H' k hl => ?_)
  · obtain ⟨b, qq, ev, hb, hq⟩ := h3 i x y.2
    subst ev
    refine ⟨_, _, rfl, SqT.of (k _ _ hb), rfl, ?_⟩
    refine ⟨_, _, rfl, _, _, rfl, _, _, rfl, rfl, rfl, yes (iteT ⟨_, rfl, _, _, _, _, rfl, rfl, SqT.of (k _ _ hq), atI_nat rfl, rfl, ?_⟩)⟩
    have e : R (.bl (decide (V.str "ends" = V.str "ends"))) H' := by
      rw [decide_eq_true rfl]
      exact r1 _ _ rfl (Same.refl _)
    exact e
  · refine ⟨D, List.replicate vs.length true, rfl, SqL.of (by rw [hl, fm_rep]), _, rfl, ?_⟩
    rw [all_rep]
    exact iteF (q _ (k1.trans k))

abbrev s_weights_of : Stmt := top 21
theorem sc_weights_of : FnScope ["works", "length", "coming", "cost"] ["works"] (defScope s_weights_of) := ⟨rfl, rfl, rfl, by decide +kernel, rfl, by decide +kernel, by decide +kernel⟩
def sp_weights_of : Sp := fun vs H Q _ => ∃ (a : Addr) (c : Int) (n : Nat) (p w : Nat → Int), vs = [.ref a] ∧ Works H a c n p w ∧ ∀ r H', Same H H' → H r = none → H' r = some (.lst ((List.range n).map fun j => V.int (w j))) → Q (.ref r) H'
theorem r_weights_of (D : Df K mg "weights_of" s_weights_of) : Rdy P w K mg base "weights_of" 1 ["works"] sp_weights_of := by
  refine rdy D sc_weights_of (fun _ _ _ _ _ _ us hl => match us, hl with | [_], _ => rfl) (fun vs H Q E h => ?_) (fun f cdv A outer s H vs Q E hr h => ?_)
  · obtain ⟨a, c, n, p, w, rfl, _⟩ := h
    rfl
  obtain ⟨a, c, n, p, w, rfl, hW, q⟩ := h
  refine ⟨_, (pss_one (ps_ret (pe_lc (own := [("length", 1), ("coming", 2), ("cost", 3)]) rfl sc_weights_of.nd (pi_tup (pv 0)) (blkOk_by (N := ["works", "length", "coming", "cost"]) (sc := defScope s_weights_of) (by decide +kernel)) (fun _ _ _ _ _ => (pg_tupK K 3 rfl (pgs_cons (pg_name (i := 1) sc_weights_of.nd rfl (Or.inl rfl) (Or.inr rfl)) (pgs_cons (pg_name (i := 2) sc_weights_of.nd rfl (Or.inl rfl) (Or.inr rfl)) (pgs_cons (pg_name (i := 3) sc_weights_of.nd rfl (Or.inl rfl) (Or.inr rfl)) pgs_nil))))) (fun _ _ _ _ _ => pts_nil) (fun _ _ _ _ _ => (pe_ix (ix_tupK K) (pv 3) pe_int (fun _ _ => rfl)))))), ?_⟩
  obtain ⟨vs, h1, h2, h3⟩ := hW.all
  refine ⟨_, rfl, a, rfl, ⟨_, SqT.of h1⟩, fun D hD => ?_⟩
  refine lc_fm walk_tup (fun i => some (.int (w i))) hD (by rw [h2]; have := hW.n8; omega) (fun H' k => SqT.of (k _ _ h1)) yAt_same (fun i x H0 H' R N hi k y r1 _ => ?_) (fun H' k hl => ?_)
  · obtain ⟨b, qq, ev, hb, hq⟩ := h3 i x y.2
    subst ev
    refine ⟨_, _, rfl, SqT.of (k _ _ hb), rfl, ?_⟩
    exact ⟨_, _, rfl, _, _, rfl, _, _, rfl, rfl, rfl, yes (iteT ⟨_, rfl, _, _, _, _, rfl, rfl, SqT.of (k _ _ hq), atI_nat rfl, r1 _ _ rfl (Same.refl _)⟩)⟩
  · refine q D H' k hD ?_
    rw [hl, range_map_fm, h2]

/-! ### gain -/
theorem gain_snoc {p : Nat → Int} (l : List Nat) (x : Nat) : gain p (l ++ [x]) = gain p l + p x * (sm p l + p x) := by
  rw [gain_perm (List.perm_append_comm (l₁ := l) (l₂ := [x]))]
  show gain p (x :: l) = _
  rw [gain_cons]; grind
theorem take_snoc {α : Type} {l : List α} {i : Nat} {x : α} (h : l[i]? = some x) : l.take (i + 1) = l.take i ++ [x] := by
  rw [List.take_add_one, h]; rfl
theorem nv_at {l : List Nat} {i : Nat} {x : V} (h : (l.map nv)[i]? = some x) : ∃ j, l[i]? = some j ∧ x = nv j := by
  rw [List.getElem?_map] at h
  cases e : l[i]? with
  | none => rw [e] at h; cases h
  | some j => rw [e] at h; exact ⟨j, rfl, (Option.some.inj h).symm⟩
/-- works[j][..] -/
theorem Works.at {H : Hp} {a : Addr} {c : Int} {n : Nat} {p w : Nat → Int} (h : Works H a c n p w) {j : Nat} (hj : j < n) : ∃ (vs : List V) (b q : Addr), H a = some (.tup vs) ∧ atI vs (j : Int) = some (.ref b) ∧ H b = some (.tup [.int (p j), .int c, .ref q]) ∧ H q = some (.tup [.str "ends", .int (w j)]) := by
  obtain ⟨vs, h1, h2, h3⟩ := h.ex
  obtain ⟨b, q, e1, e2, e3⟩ := h3 j hj
  exact ⟨vs, b, q, h1, atI_nat e1, e2, e3⟩
theorem Works.p64 {H : Hp} {a : Addr} {c : Int} {n : Nat} {p w : Nat → Int} (h : Works H a c n p w) (j : Nat) : -(2 ^ 64) < p j ∧ p j < 2 ^ 64 := by
  have := h.pp j
  omega
theorem Works.w64 {H : Hp} {a : Addr} {c : Int} {n : Nat} {p w : Nat → Int} (h : Works H a c n p w) (j : Nat) : -(2 ^ 64) < w j ∧ w j < 2 ^ 64 := by
  have := h.ww j
  omega
abbrev s_gain : Stmt := top 27
theorem sc_gain : FnScope ["works", "some", "found", "whole", "work", "length"] ["works", "some"] (defScope s_gain) := ⟨rfl, rfl, rfl, by decide +kernel, rfl, by decide +kernel, by decide +kernel⟩
def sp_gain : Sp := fun vs H Q _ => ∃ (a b : Addr) (c : Int) (n : Nat) (p w : Nat → Int) (l : List Nat), vs = [.ref a, .ref b] ∧ Works H a c n p w ∧ H b = some (.tup (l.map nv)) ∧ (∀ j ∈ l, j < n) ∧ Q (.int (gain p l)) H
theorem r_gain (D : Df K mg "gain" s_gain) : Rdy P w K mg base "gain" 1 ["works", "some"] sp_gain := by
  refine rdy D sc_gain (fun _ _ _ _ _ _ us hl => match us, hl with | [_, _], _ => rfl) (fun vs H Q E h => ?_) (fun f cdv A outer s H vs Q E hr h => ?_)
  · obtain ⟨a, b, c, n, p, w, l, rfl, _⟩ := h
    rfl
  obtain ⟨a, b, c, n, p, w, l, rfl, hW, hl, hn, q⟩ := h
  refine ⟨_, (pss_cons (ps_set (i := 2) sc_gain.nd rfl (Or.inl rfl) pe_int)
    (pss_cons (ps_set (i := 3) sc_gain.nd rfl (Or.inl rfl) pe_int)
    (pss_cons (ps_for PassesOwn.never rfl (pi_tup (pv 1)) (pg_name (i := 4) sc_gain.nd rfl (Or.inl rfl))
      (pss_cons (ps_set (i := 5) sc_gain.nd rfl (Or.inl rfl) (pe_ix ix_tup (pe_ix ix_tup (pv 0) (pv 4) (fun _ _ => rfl)) pe_int (fun _ _ => rfl)))
      (pss_cons (ps_set (i := 3) sc_gain.nd rfl (Or.inl rfl) (pe_op op_add (pv 3) (pv 5)))
      (pss_one (ps_set (i := 2) sc_gain.nd rfl (Or.inl rfl) (pe_op op_add (pv 2) (pe_op op_mul (pv 5) (pv 3))))))))
    (pss_one (ps_ret (pv 2)))))), ?_⟩
  refine ⟨_, rfl, b, rfl, ⟨_, SqT.of hl⟩, ?_⟩
  refine for_tup (fun i σ H' => H = H' ∧ ∃ x y, σ = [some (.ref a), some (.ref b), some (.int (gain p (l.take i))), some (.int (sm p (l.take i))), x, y]) ⟨rfl, none, none, rfl⟩ (fun i σ H' _ h => by rw [← h.1]; exact SqT.of hl) (fun i x σ H' hx h => ?_) (fun σ H' h => ?_)
  · obtain ⟨rfl, x0, y0, rfl⟩ := h
    obtain ⟨j, hj, rfl⟩ := nv_at hx
    obtain ⟨vs, b1, q1, e1, e2, e3, e4⟩ := hW.at (hn j (List.mem_of_getElem? hj))
    refine ⟨_, rfl, _, rfl, _, _, _, _, rfl, rfl, SqT.of e1, e2, _, _, _, _, rfl, rfl, SqT.of e3, atI_nat rfl, ?_⟩
    refine ⟨_, rfl, _, rfl, _, _, rfl, rfl, ?_⟩
    refine ⟨_, rfl, _, rfl, _, rfl, _, _, rfl, rfl, .inl (hW.p64 j), _, _, rfl, rfl, ?_⟩
    refine ⟨rfl, some (nv j), some (.int (p j)), ?_⟩
    rw [take_snoc hj, gain_snoc, sm_snoc]
    rfl
  · obtain ⟨rfl, x0, y0, rfl⟩ := h
    rw [List.length_map, List.take_length]
    exact ⟨_, rfl, q⟩

abbrev s_least_sum : Stmt := top 22
theorem sc_least_sum : FnScope ["works", "weights", "found", "j", "work", "i"] ["works", "weights"] (defScope s_least_sum) := ⟨rfl, rfl, rfl, by decide +kernel, rfl, by decide +kernel, by decide +kernel⟩
def sp_least_sum : Sp := fun vs H Q _ => ∃ (a b : Addr) (c : Int) (n : Nat) (p w T : Nat → Int), vs = [.ref a, .ref b] ∧ Works H a c n p w ∧ H b = some (.lst ((List.range n).map fun j => V.int (T j))) ∧ ∀ H', Same H H' → Q (.int (ls p T c n)) H'
theorem range_at {n i : Nat} {f : Nat → V} (h : i < n) : atI ((List.range n).map f) (i : Int) = some (f i) := atI_nat (by rw [List.getElem?_map, List.getElem?_range h] <;> rfl)
theorem r_least_sum (D : Df K mg "least_sum" s_least_sum) (T : Bi mg) : Rdy P w K mg base "least_sum" 1 ["works", "weights"] sp_least_sum := by
  refine rdy D sc_least_sum (fun _ _ _ _ _ _ us hl => match us, hl with | [_, _], _ => rfl) (fun vs H Q E h => ?_) (fun f cdv A outer s H vs Q E hr h => ?_)
  · obtain ⟨a, b, c, n, p, w, T, rfl, _⟩ := h
    rfl
  obtain ⟨a, b, c, n, p, w, W, rfl, hW, hb, q⟩ := h
  refine ⟨_, (pss_cons (ps_set (i := 2) sc_least_sum.nd rfl (Or.inl rfl) pe_int)
    (pss_cons (ps_for PassesOwn.never rfl (pi_enumT rfl T.b_enumerate (pa_cons (pv 0) pa_nil)) (pg_tup rfl (pgs_cons (pg_name (i := 3) sc_least_sum.nd rfl (Or.inl rfl)) (pgs_cons (pg_name (i := 4) sc_least_sum.nd rfl (Or.inl rfl)) pgs_nil)))
      (pss_cons (ps_set (i := 2) sc_least_sum.nd rfl (Or.inl rfl) (pe_op op_add (pv 2) (pe_op op_mul (pe_ix ix_list (pv 1) (pv 3) (fun _ _ => rfl)) (pe_op op_add (pe_ix ix_tup (pv 4) pe_int (fun _ _ => rfl)) (pe_ix ix_tup (pv 4) pe_int (fun _ _ => rfl))))))
      (pss_one (ps_for PassesOwn.never rfl (pi_range1 rfl T.b_range (pa_cons (pv 3) pa_nil)) (pg_name (i := 5) sc_least_sum.nd rfl (Or.inl rfl))
        (pss_one (ps_set (i := 2) sc_least_sum.nd rfl (Or.inl rfl) (pe_op op_add (pv 2) (pe_callB (call_min2 rfl) rfl T.b_min (by decide +kernel) (pa_cons (pe_op op_mul (pe_ix ix_tup (pe_ix ix_tup (pv 0) (pv 5) (fun _ _ => rfl)) pe_int (fun _ _ => rfl)) (pe_ix ix_list (pv 1) (pv 3) (fun _ _ => rfl))) (pa_cons (pe_op op_mul (pe_ix ix_tup (pv 4) pe_int (fun _ _ => rfl)) (pe_ix ix_list (pv 1) (pv 5) (fun _ _ => rfl))) pa_nil))))))))))
    (pss_one (ps_ret (pv 2))))), ?_⟩
  obtain ⟨vs, h1, h2, h3⟩ := hW.all
  refine ⟨_, rfl, a, vs, rfl, SqT.of h1, ?_⟩
  have n8 := hW.n8
  refine for_it walk_enumT (fun i σ H' => Same H H' ∧ ∃ x y z, σ = [some (.ref a), some (.ref b), some (.int (ls p W c i)), x, y, z]) ⟨Same.refl _, none, none, none, rfl⟩ (fun i σ H' _ h => SqT.of (h.1 _ _ h1)) (fun i x σ H0 H' hi h y => ?_) (fun σ H' h => ?_)
  · obtain ⟨k0, x0, y0, z0, rfl⟩ := h
    have k := k0.trans (yPair_same _ _ _ _ y)
    obtain ⟨t, x1, v, rfl, ht, rfl, e1, e2⟩ := y
    cases e1
    obtain ⟨b1, q1, rfl, hb1, hq1⟩ := h3 i v e2
    refine ⟨_, _, rfl, SqT.of upd_same, rfl, _, _, rfl, _, _, rfl, rfl, ?_⟩
    have hi' : i < n := by omega
    refine ⟨_, rfl, _, rfl, _, rfl, _, _, _, _, rfl, rfl, SqL.of (k _ _ hb), range_at hi', _, rfl, _, _, _, _, rfl, rfl, SqT.of (k _ _ hb1), atI_nat rfl, _, rfl, _, _, _, _, rfl, rfl, SqT.of (k _ _ hb1), atI_nat rfl, _, _, rfl, rfl, _, _, rfl, rfl, ?_⟩
    have pc := hW.pp i
    have cc := hW.cc
    refine ⟨.inr ⟨by omega, by omega⟩, _, _, rfl, rfl, ?_⟩
    refine ⟨_, rfl, (i : Int), rfl, by omega, by omega, ?_⟩
    refine for_range (n := i) (fun i2 σ H2 => upd H0 t (.tup [.int (i : Nat), .ref b1]) = H2 ∧ ∃ z, σ = [some (.ref a), some (.ref b), some (.int (ls p W c i + W i * (c + p i) + sm (fun i2 => MM p W i2 i) (List.range i2))), some (.int (i : Nat)), some (.ref b1), z]) ?_ (fun i2 σ H2 hi2 h => ?_) (fun σ H2 h => ?_)
    · exact ⟨rfl, _, by rw [List.range_zero]; simp only [sm]; rw [Int.add_zero] <;> rfl⟩
    · obtain ⟨rfl, z, rfl⟩ := h
      have hi2' : i2 < n := by omega
      obtain ⟨vs2, b2, q2, f1, f2, f3, f4⟩ := (hW.kt (KT.same k)).at hi2'
      rw [show (0 : Int) + (i2 : Nat) = (i2 : Int) by omega]
      refine ⟨_, rfl, _, rfl, _, rfl, _, _, _, _, rfl, rfl, SqT.of f1, f2, _, _, _, _, rfl, rfl, SqT.of f3, atI_nat rfl, _, rfl, _, rfl, _, _, _, _, rfl, rfl, SqL.of (k _ _ hb), range_at hi', _, _, rfl, rfl, .inl (hW.p64 i2), ?_⟩
      refine ⟨_, rfl, _, _, _, _, rfl, rfl, SqT.of (k _ _ hb1), atI_nat rfl, _, rfl, _, rfl, _, _, _, _, rfl, rfl, SqL.of (k _ _ hb), range_at hi2', _, _, rfl, rfl, .inl (hW.p64 i), _, _, rfl, _, _, rfl, rfl, ?_⟩
      refine ⟨rfl, some (.int (i2 : Nat)), ?_⟩
      rw [List.range_succ, sm_snoc]
      have e : MM p W i2 i = if p i * W i2 < p i2 * W i then p i * W i2 else p i2 * W i := by
        unfold MM
        rw [Int.min_def]
        split <;> split <;> omega
      rw [e, ← Int.add_assoc]
      rfl
    · obtain ⟨rfl, z, rfl⟩ := h
      exact ⟨k, _, _, _, rfl⟩
  · obtain ⟨k, x0, y0, z0, rfl⟩ := h
    rw [h2]
    exact ⟨_, rfl, q _ k⟩
end
end NW
/-! k67 by hand, 3: rates, blocks by rates, what is paid -/
namespace NW
open PySem PySem.Spec PyProof.Rows L2
/-! ### plain: fractions as rationals -/
theorem pow2_le {a b : Nat} (h : a ≤ b) : (2 : Int) ^ a ≤ 2 ^ b := by
  have := Nat.pow_le_pow_right (show 0 < 2 by decide) h
  exact_mod_cast this
theorem frac_pos {t b : Int} (hb : 0 < b) : 0 < b / (Int.gcd t b : Nat) := by
  have g0 := gcd_pos_of (t := t) hb
  exact Int.ediv_pos_of_pos_of_dvd hb (by omega) (Int.gcd_dvd_right ..)
theorem frac_gcd {t b : Int} (hb : 0 < b) : Int.gcd (t / (Int.gcd t b : Nat)) (b / (Int.gcd t b : Nat)) = 1 := by
  have g0 := gcd_pos_of (t := t) hb
  rw [Int.gcd_ediv (Int.gcd_dvd_left ..) (Int.gcd_dvd_right ..)]
  simp only [Int.natAbs_natCast]
  exact Nat.div_self g0
theorem frac_val {t b : Int} (hb : 0 < b) : ((t / (Int.gcd t b : Nat) : Int) : Rat) / ((b / (Int.gcd t b : Nat) : Int) : Rat) = (t : Rat) / (b : Rat) := by
  have g0 : (0 : Int) < (Int.gcd t b : Nat) := by have := gcd_pos_of (t := t) hb; omega
  have h1 : t / (Int.gcd t b : Nat) * (Int.gcd t b : Nat) = t := Int.ediv_mul_cancel (Int.gcd_dvd_left ..)
  have h2 : b / (Int.gcd t b : Nat) * (Int.gcd t b : Nat) = b := Int.ediv_mul_cancel (Int.gcd_dvd_right ..)
  have hp := frac_pos (t := t) hb
  generalize t / (Int.gcd t b : Nat) = x at *
  generalize b / (Int.gcd t b : Nat) = y at *
  generalize ((Int.gcd t b : Nat) : Int) = g at *
  subst h1 h2
  have yR : (0 : Rat) < (y : Rat) := by exact_mod_cast hp
  have gR : (0 : Rat) < (g : Rat) := by exact_mod_cast g0
  rw [Rat.intCast_mul, Rat.intCast_mul]
  grind
theorem frac_le {t b : Int} (hb : 0 < b) : (t / (Int.gcd t b : Nat)).natAbs ≤ t.natAbs ∧ b / (Int.gcd t b : Nat) ≤ b := by
  have g0 := gcd_pos_of (t := t) hb
  have h1 : t / (Int.gcd t b : Nat) * (Int.gcd t b : Nat) = t := Int.ediv_mul_cancel (Int.gcd_dvd_left ..)
  refine ⟨?_, Int.ediv_le_self _ (by omega)⟩
  have h2 := congrArg Int.natAbs h1
  rw [Int.natAbs_mul, Int.natAbs_natCast] at h2
  calc (t / (Int.gcd t b : Nat)).natAbs = (t / (Int.gcd t b : Nat)).natAbs * 1 := (Nat.mul_one _).symm
    _ ≤ (t / (Int.gcd t b : Nat)).natAbs * Int.gcd t b := Nat.mul_le_mul_left _ g0
    _ = t.natAbs := h2
theorem frac_lt {t b t' b' : Int} (hb : 0 < b) (hb' : 0 < b') : t * b' < t' * b ↔ (t : Rat) / b < (t' : Rat) / b' := by
  have bR : (0 : Rat) < (b : Rat) := by exact_mod_cast hb
  have bR' : (0 : Rat) < (b' : Rat) := by exact_mod_cast hb'
  have e : (t * b' < t' * b) ↔ ((t : Rat) * b' < (t' : Rat) * b) := by
    rw [← Rat.intCast_mul, ← Rat.intCast_mul]
    exact Rat.intCast_lt_intCast.symm
  rw [e]
  have e1 : (t : Rat) = (t : Rat) / b * b := by grind
  have e2 : (t' : Rat) = (t' : Rat) / b' * b' := by grind
  generalize (t : Rat) / b = x at *
  generalize (t' : Rat) / b' = y at *
  have h1 : (t : Rat) * b' = x * (b * b') := by rw [e1]; grind
  have h2 : (t' : Rat) * b = y * (b * b') := by rw [e2]; grind
  have c := Rat.mul_pos bR bR'
  rw [h1, h2]
  generalize (b : Rat) * b' = z at c
  clear e e1 e2 h1 h2 bR bR'
  constructor
  · intro h
    refine Rat.not_le.mp fun q => ?_
    have := Rat.mul_le_mul_of_nonneg_right q (Rat.le_of_lt c)
    exact absurd h (Rat.not_lt.mpr this)
  · intro h
    have : 0 < (y - x) * z := Rat.mul_pos (by grind) c
    grind
theorem sm_cast (f : Nat → Int) : ∀ l : List Nat, ((sm f l : Int) : Rat) = sm (rp f) l
  | [] => rfl
  | x :: r => by
    have := sm_cast f r
    simp only [sm, rp, Rat.intCast_add]
    rw [this]
theorem sm_sum (f : Nat → Int) : ∀ l : List Nat, (l.map f).sum = sm f l
  | [] => rfl
  | x :: r => by
    rw [List.map_cons, List.sum_cons, sm_sum f r] <;> rfl
theorem sm_bound {f : Nat → Int} {lo hi : Int} (h : ∀ j, lo ≤ f j ∧ f j ≤ hi) : ∀ l : List Nat, lo * l.length ≤ sm f l ∧ sm f l ≤ hi * l.length
  | [] => by simp [sm]
  | x :: r => by
    have ih := sm_bound h r
    have := h x
    simp only [sm, List.length_cons]
    rw [Int.natCast_add, Int.mul_add, Int.mul_add]
    omega
theorem fm_get' {l : List Nat} {g : Nat → V} : ∀ k, k ≤ l.length → (List.range k).filterMap (fun i => (l[i]?).map g) = (l.take k).map g
  | 0, _ => rfl
  | k + 1, h => by
    have e : l[k]? = some l[k] := List.getElem?_eq_getElem (by omega)
    rw [range_snoc_fm, fm_get' k (by omega), take_snoc e, e, List.map_append] <;> rfl
theorem fm_get {l : List Nat} {g : Nat → V} : (List.range (l.map nv).length).filterMap (fun i => (l[i]?).map g) = l.map g := by
  rw [List.length_map, fm_get' _ (Nat.le_refl _), List.take_length]
theorem nv_map (l : List Nat) : l.map nv = (l.map fun j : Nat => (j : Int)).map V.int := by rw [List.map_map]; rfl
theorem perm_map_inv {α β : Type} {f : α → β} : ∀ {l : List α} {m : List β}, m.Perm (l.map f) → ∃ l' : List α, l'.Perm l ∧ m = l'.map f := by
  intro l m h
  generalize hk : l.map f = k at h
  induction h generalizing l with
  | nil => exact ⟨[], by simpa using hk, rfl⟩
  | @cons x l1 l2 p ih =>
    cases l with
    | nil => cases hk
    | cons a l =>
      rw [List.map_cons] at hk
      injection hk with h1 h2
      obtain ⟨l', p', e⟩ := ih h2
      exact ⟨a :: l', p'.cons a, by rw [List.map_cons, h1, e]⟩
  | swap x y l1 =>
    cases l with
    | nil => cases hk
    | cons a l =>
      cases l with
      | nil => cases hk
      | cons b l =>
        rw [List.map_cons, List.map_cons] at hk
        injection hk with h1 h2
        injection h2 with h2 h3
        exact ⟨b :: a :: l, .swap _ _ _, by rw [List.map_cons, List.map_cons, h1, h2, h3]⟩
  | trans _ _ i1 i2 =>
    obtain ⟨l1, p1, e1⟩ := i2 hk
    obtain ⟨l2, p2, e2⟩ := i1 e1.symm
    exact ⟨l2, p2.trans p1, e2⟩
/-- a fraction's facts -/
structure Fr (v : Rat) (k : Nat) (t b : Int) : Prop where
  b0 : 0 < b
  bb : b < 2 ^ k
  tb : t.natAbs < 2 ^ k
  g : Int.gcd t b = 1
  v : (t : Rat) / b = v
theorem Fr.mk_ {t b : Int} {k : Nat} (hb : 0 < b) (h1 : b < 2 ^ k) (h2 : t.natAbs < 2 ^ k) : Fr ((t : Rat) / b) k (t / (Int.gcd t b : Nat)) (b / (Int.gcd t b : Nat)) :=
  ⟨frac_pos hb, Int.lt_of_le_of_lt (frac_le hb).2 h1, Nat.lt_of_le_of_lt (frac_le hb).1 h2, frac_gcd hb, frac_val hb⟩
theorem Fr.t64 {v : Rat} {t b : Int} (h : Fr v 24 t b) : -(2 ^ 64) < t ∧ t < 2 ^ 64 := by
  have := h.tb
  omega
theorem Fr.b64 {v : Rat} {t b : Int} (h : Fr v 24 t b) : -(2 ^ 64) < b ∧ b < 2 ^ 64 := by
  have := h.bb
  have := h.b0
  omega
section
variable {P : Program} {w : World} {K : PySem.W.Frag} {mg : Str → Option Value} {base : Heap}
abbrev s_minus : Stmt := top 15
theorem sc_minus : FnScope ["one", "other"] ["one", "other"] (defScope s_minus) := ⟨rfl, rfl, rfl, by decide +kernel, rfl, by decide +kernel, by decide +kernel⟩
def sp_minus : Sp := fun vs H Q _ => ∃ (v u : V) (t b t' b' : Int) (x y : Rat), vs = [v, u] ∧ FrV H v t b ∧ FrV H u t' b' ∧ Fr x 24 t b ∧ Fr y 24 t' b' ∧ ∀ r H' t2 b2, Same H H' → Fr (x - y) 59 t2 b2 → H' r = some (.tup [.int t2, .int b2]) → Q (.ref r) H'
theorem r_minus (D : Df K mg "minus" s_minus) (R_fraction : Rdy P w K mg base "fraction" 2 ["top", "bottom"] sp_fraction) : Rdy P w K mg base "minus" 3 ["one", "other"] sp_minus := by
  refine rdy D sc_minus (fun _ _ _ _ _ _ us hl => match us, hl with | [_, _], _ => rfl) (fun vs H Q E h => ?_) (fun f cdv A outer s H vs Q E hr h => ?_)
  · obtain ⟨v, u, t, b, t', b', x, y, rfl, _⟩ := h
    rfl
  obtain ⟨_, _, t, b, t', b', x, y, rfl, ⟨q1, rfl, h1⟩, ⟨q2, rfl, h2⟩, f1, f2, q⟩ := h
  refine ⟨_, (pss_one (ps_ret (pe_cl R_fraction hr (pa_cons (pe_op op_sub (pe_op op_mul (pe_ix ix_tup (pv 0) pe_int (fun _ _ => rfl)) (pe_ix ix_tup (pv 1) pe_int (fun _ _ => rfl))) (pe_op op_mul (pe_ix ix_tup (pv 1) pe_int (fun _ _ => rfl)) (pe_ix ix_tup (pv 0) pe_int (fun _ _ => rfl)))) (pa_cons (pe_op op_mul (pe_ix ix_tup (pv 0) pe_int (fun _ _ => rfl)) (pe_ix ix_tup (pv 1) pe_int (fun _ _ => rfl))) pa_nil))))), ?_⟩
  refine ⟨_, rfl, _, _, _, _, rfl, rfl, SqT.of h1, atI_nat rfl, _, rfl, _, _, _, _, rfl, rfl, SqT.of h2, atI_nat rfl, _, _, rfl, rfl, .inl f1.t64, ?_⟩
  refine ⟨_, rfl, _, _, _, _, rfl, rfl, SqT.of h2, atI_nat rfl, _, rfl, _, _, _, _, rfl, rfl, SqT.of h1, atI_nat rfl, _, _, rfl, rfl, .inl f2.t64, _, _, rfl, rfl, ?_⟩
  refine ⟨_, rfl, _, _, _, _, rfl, rfl, SqT.of h1, atI_nat rfl, _, rfl, _, _, _, _, rfl, rfl, SqT.of h2, atI_nat rfl, _, _, rfl, rfl, .inl f1.b64, ?_⟩
  have b0 := f1.b0
  have b0' := f2.b0
  have hb : 0 < b * b' := Int.mul_pos b0 b0'
  have z1 : (b * b').natAbs < 2 ^ (24 + 24) := wide_lt (bits_of b0 f1.bb) (bits_of b0' f2.bb)
  have z2 : (t * b').natAbs < 2 ^ (24 + 24) := wide_lt f1.tb (bits_of b0' f2.bb)
  have z3 : (t' * b).natAbs < 2 ^ (24 + 24) := wide_lt f2.tb (bits_of b0 f1.bb)
  refine ⟨_, _, rfl, hb, ?_, fun r hr' => ?_⟩
  · refine Int.lt_of_lt_of_le (show b * b' < 2 ^ 48 by omega) ?_
    exact pow2_le (by decide)
  · have e : ((t * b' - t' * b : Int) : Rat) / ((b * b' : Int) : Rat) = x - y := by
      have bR : (0 : Rat) < (b : Rat) := by exact_mod_cast b0
      have bR' : (0 : Rat) < (b' : Rat) := by exact_mod_cast b0'
      have v1 := f1.v
      have v2 := f2.v
      rw [Rat.intCast_sub, Rat.intCast_mul, Rat.intCast_mul, Rat.intCast_mul]
      grind
    have fr := Fr.mk_ (t := t * b' - t' * b) (b := b * b') (k := 59) hb (by omega) (by omega)
    rw [e] at fr
    exact q _ _ _ _ (same_new hr') fr upd_same

abbrev s_rate : Stmt := top 35
theorem sc_rate : FnScope ["works", "block", "j"] ["works", "block"] (defScope s_rate) := ⟨rfl, rfl, rfl, by decide +kernel, rfl, by decide +kernel, by decide +kernel⟩
def sp_rate : Sp := fun vs H Q _ => ∃ (a : Addr) (v : V) (c : Int) (n : Nat) (p w : Nat → Int) (l : List Nat), vs = [.ref a, v] ∧ Works H a c n p w ∧ BlkV H v l ∧ l ≠ [] ∧ l.length ≤ 8 ∧ (∀ j ∈ l, j < n) ∧
  ∀ r H' t b, Same H H' → Fr (rho p w l) 24 t b → H' r = some (.tup [.int t, .int b]) → Q (.ref r) H'
theorem r_rate (D : Df K mg "rate" s_rate) (T : Bi mg) (R_fraction : Rdy P w K mg base "fraction" 2 ["top", "bottom"] sp_fraction) : Rdy P w K mg base "rate" 3 ["works", "block"] sp_rate := by
  refine rdy D sc_rate (fun _ _ _ _ _ _ us hl => match us, hl with | [_, _], _ => rfl) (fun vs H Q E h => ?_) (fun f cdv A outer s H vs Q E hr h => ?_)
  · obtain ⟨a, v, c, n, p, w, l, rfl, _⟩ := h
    rfl
  obtain ⟨a, v, c, n, p, w, l, rfl, hW, ⟨bk, rfl, hb⟩, hne, h8, hn, q⟩ := h
  refine ⟨_, (pss_one (ps_ret (pe_cl R_fraction hr (pa_cons (pe_callB (cr_sum rfl) rfl T.b_sum (by decide +kernel) (pa_cons (pe_lc (own := [("j", 2)]) rfl sc_rate.nd (pi_tup (pv 1)) (blkOk_by (N := ["works", "block", "j"]) (sc := defScope s_rate) (by decide +kernel)) (fun _ _ _ _ _ => (pg_name (i := 2) sc_rate.nd rfl (Or.inl rfl) (Or.inr rfl))) (fun _ _ _ _ _ => pts_nil) (fun _ _ _ _ _ => (pe_ix (ix_tupK K) (pe_ix (ix_tupK K) (pe_ix (ix_tupK K) (pv 0) (pv 2) (fun _ _ => rfl)) pe_int (fun _ _ => rfl)) pe_int (fun _ _ => rfl)))) pa_nil)) (pa_cons (pe_callB (cr_sum rfl) rfl T.b_sum (by decide +kernel) (pa_cons (pe_lc (own := [("j", 2)]) rfl sc_rate.nd (pi_tup (pv 1)) (blkOk_by (N := ["works", "block", "j"]) (sc := defScope s_rate) (by decide +kernel)) (fun _ _ _ _ _ => (pg_name (i := 2) sc_rate.nd rfl (Or.inl rfl) (Or.inr rfl))) (fun _ _ _ _ _ => pts_nil) (fun _ _ _ _ _ => (pe_ix (ix_tupK K) (pe_ix (ix_tupK K) (pv 0) (pv 2) (fun _ _ => rfl)) pe_int (fun _ _ => rfl)))) pa_nil)) pa_nil))))), ?_⟩
  have lm := fun g : Nat → Int => fm_get (l := l) (g := fun j => V.int (g j))
  refine ⟨_, rfl, bk, rfl, ⟨_, SqT.of hb⟩, fun D1 hD1 => ?_⟩
  refine lc_fm walk_tup (fun i => (l[i]?).map fun j => V.int (w j)) hD1 (by rw [List.length_map]; omega) (fun H' k => SqT.of (k _ _ hb)) yAt_same (fun i x H0 H' R N hi k y r1 _ => ?_) (fun H1 k1 hl1 => ?_)
  · obtain ⟨j, hj, rfl⟩ := nv_at y.2
    obtain ⟨vs, b1, q1, e1, e2, e3, e4⟩ := (hW.kt (KT.same k)).at (hn j (List.mem_of_getElem? hj))
    exact ⟨rfl, yes (iteT ⟨_, rfl, _, rfl, _, _, _, _, rfl, rfl, SqT.of e1, e2, _, _, _, _, rfl, rfl, SqT.of e3, atI_nat rfl, _, _, _, _, rfl, rfl, SqT.of e4, atI_nat rfl, r1 _ _ (by rw [hj] <;> rfl) (Same.refl _)⟩)⟩
  refine ⟨D1, l.map w, rfl, SqL.of (by rw [hl1, lm w, List.map_map] <;> rfl), ?_⟩
  have hb1 := k1 _ _ hb
  refine ⟨_, rfl, bk, rfl, ⟨_, SqT.of hb1⟩, fun D2 hD2 => ?_⟩
  refine lc_fm walk_tup (fun i => (l[i]?).map fun j => V.int (p j)) hD2 (by rw [List.length_map]; omega) (fun H' k => SqT.of (k _ _ hb1)) yAt_same (fun i x H0 H' R N hi k y r1 _ => ?_) (fun H2 k2 hl2 => ?_)
  · obtain ⟨j, hj, rfl⟩ := nv_at y.2
    obtain ⟨vs, b1, q1, e1, e2, e3, e4⟩ := (hW.kt (KT.same (k1.trans k))).at (hn j (List.mem_of_getElem? hj))
    exact ⟨rfl, yes (iteT ⟨_, rfl, _, rfl, _, _, _, _, rfl, rfl, SqT.of e1, e2, _, _, _, _, rfl, rfl, SqT.of e3, atI_nat rfl, r1 _ _ (by rw [hj] <;> rfl) (Same.refl _)⟩)⟩
  refine ⟨D2, l.map p, rfl, SqL.of (by rw [hl2, lm p, List.map_map] <;> rfl), ?_⟩
  rw [sm_sum, sm_sum]
  have bp := sm_bound hW.pp l
  have bw := sm_bound hW.ww l
  have l1 : 1 ≤ l.length := by
    cases l with
    | nil => exact absurd rfl hne
    | cons => simp
  have p0 : 0 < sm p l := by omega
  refine ⟨_, _, rfl, p0, ?_, fun r hr' => ?_⟩
  · refine Int.lt_of_lt_of_le (show sm p l < 2 ^ 24 by omega) ?_
    exact pow2_le (by decide)
  · have fr := Fr.mk_ (t := sm w l) (b := sm p l) (k := 24) p0 (by omega) (by omega)
    rw [sm_cast, sm_cast] at fr
    exact q _ _ _ _ (k1.trans (k2.trans (same_new hr'))) fr upd_same
end
end NW
/-! k67 by hand, 4: blocks by rates, what is paid -/
namespace NW
open PySem PySem.Spec PyProof.Rows L2
/-! ### plain -/
theorem insert_sorted {r : List Nat → Rat} {bs : List (List Nat)} {B : List Nat} {k : Nat} (hs : bs.Pairwise fun X Y => r Y ≤ r X) (hk : k ≤ bs.length) (h1 : ∀ m (h : m < bs.length), k ≤ m → r bs[m] < r B) (h2 : ∀ (h : k - 1 < bs.length), 0 < k → r B ≤ r bs[k - 1]) :
    (bs.take k ++ [B] ++ bs.drop k).Pairwise fun X Y => r Y ≤ r X := by
  have hd : ∀ Y ∈ bs.drop k, r Y < r B := fun Y hY => by
    obtain ⟨m, hm, rfl⟩ := List.mem_iff_getElem.mp hY
    rw [List.getElem_drop]
    exact h1 _ _ (by omega)
  have ht : ∀ X ∈ bs.take k, r B ≤ r X := fun X hX => by
    obtain ⟨m, hm, rfl⟩ := List.mem_iff_getElem.mp hX
    rw [List.length_take] at hm
    rw [List.getElem_take]
    have q := h2 (by omega) (by omega)
    by_cases e : m = k - 1
    · subst e; exact q
    · exact Rat.le_trans q (List.pairwise_iff_getElem.mp hs m (k - 1) (by omega) (by omega) (by omega))
  rw [List.append_assoc, List.pairwise_append]
  refine ⟨hs.take, ?_, fun X hX Y hY => ?_⟩
  · rw [List.singleton_append, List.pairwise_cons]
    exact ⟨fun Y hY => Rat.le_of_lt (hd Y hY), hs.drop⟩
  · rw [List.singleton_append, List.mem_cons] at hY
    rcases hY with rfl | hY
    · exact ht X hX
    · exact Rat.le_trans (Rat.le_of_lt (hd Y hY)) (ht X hX)
theorem insert_perm {α : Type} (bs : List α) (B : α) (k : Nat) : (bs.take k ++ [B] ++ bs.drop k).Perm (bs ++ [B]) := by
  rw [List.append_assoc]
  refine (List.perm_append_comm.append_left (bs.take k)).trans ?_
  rw [← List.append_assoc, List.take_append_drop]
/-- what blocks have to be for their rates to be asked -/
def BlkOk8 (n : Nat) (X : List Nat) : Prop := X ≠ [] ∧ X.length ≤ 8 ∧ ∀ j ∈ X, j < n
theorem lst_len {n : Nat} (h : n ≤ 100000) : n < sizeLine := by rw [sizeLine_eq]; omega
section
variable {P : Program} {w : World} {K : PySem.W.Frag} {mg : Str → Option Value} {base : Heap}
abbrev s_by_rates : Stmt := top 36
theorem sc_by_rates : FnScope ["works", "blocks", "found", "block", "at"] ["works", "blocks"] (defScope s_by_rates) := ⟨rfl, rfl, rfl, by decide +kernel, rfl, by decide +kernel, by decide +kernel⟩
def sp_by_rates : Sp := fun vs H Q _ => ∃ (a b : Addr) (c : Int) (n : Nat) (p w : Nat → Int) (us : List V) (bs : List (List Nat)), vs = [.ref a, .ref b] ∧ Works H a c n p w ∧ H b = some (.lst us) ∧ All2 (BlkV H) us bs ∧ (∀ X ∈ bs, BlkOk8 n X) ∧ bs.length ≤ 8 ∧
  ∀ r H' us' bs', Same H H' → H r = none → H' r = some (.lst us') → All2 (BlkV H') us' bs' → bs'.Perm bs → bs'.Pairwise (fun X Y => rho p w Y ≤ rho p w X) → Q (.ref r) H'
theorem r_by_rates (D : Df K mg "by_rates" s_by_rates) (T : Bi mg) (R_less : Rdy P w K mg base "less" 1 ["one", "other"] sp_less) (R_rate : Rdy P w K mg base "rate" 3 ["works", "block"] sp_rate) : Rdy P w K mg base "by_rates" 4 ["works", "blocks"] sp_by_rates := by
  refine rdy D sc_by_rates (fun _ _ _ _ _ _ us hl => match us, hl with | [_, _], _ => rfl) (fun vs H Q E h => ?_) (fun f cdv A outer s H vs Q E hr h => ?_)
  · obtain ⟨a, b, c, n, p, w, us, bs, rfl, _⟩ := h
    rfl
  obtain ⟨a, b, c, n, p, w, us, bs, rfl, hW, hb, hbs, hok, h8, q⟩ := h
  refine ⟨_, (pss_cons (ps_set (i := 2) sc_by_rates.nd rfl (Or.inl rfl) (pe_lst pa_nil))
    (pss_cons (ps_for PassesOwn.never rfl (pi_list (pv 1)) (pg_name (i := 3) sc_by_rates.nd rfl (Or.inl rfl))
      (pss_cons (ps_set (i := 4) sc_by_rates.nd rfl (Or.inl rfl) (pe_callB call_len_seq rfl T.b_len PySem.boot_len (pa_cons (pv 2) pa_nil)))
      (pss_cons (ps_while PassesOwn.never (PW.pt (pw_and (pt_cmpR op_gt (pv 4) pe_int (nomark _)) (pw_and1 (pt_val (pe_cl R_less (hr.mono (by decide)) (pa_cons (pe_cl R_rate (hr.mono (by decide)) (pa_cons (pv 0) (pa_cons (pe_ix ix_list (pv 2) (pe_op op_sub (pv 4) pe_int) (fun _ _ => rfl)) pa_nil))) (pa_cons (pe_cl R_rate (hr.mono (by decide)) (pa_cons (pv 0) (pa_cons (pv 3) pa_nil))) pa_nil)))))))
        (pss_one (ps_set (i := 4) sc_by_rates.nd rfl (Or.inl rfl) (pe_op op_sub (pv 4) pe_int))))
      (pss_one (ps_expr (pe_bm PySem.F.plainAttrs_list PySem.F.slot_list_insert PySem.F.type_list_insert mt_insert (pv 2) (pa_cons (pv 4) (pa_cons (pv 3) pa_nil))))))))
    (pss_one (ps_ret (pv 2))))), ?_⟩
  refine ⟨(by show 0 ≤ sizeLine; decide), fun r0 hr0 => ?_⟩
  refine ⟨_, rfl, b, rfl, ⟨_, SqL.of (same_new hr0 _ _ hb)⟩, ?_⟩
  refine for_list (fun i σ H' => Same H H' ∧ (∃ us' bs', H' r0 = some (.lst us') ∧ All2 (BlkV H') us' bs' ∧ bs'.Perm (bs.take i) ∧ bs'.Pairwise (fun X Y => rho p w Y ≤ rho p w X)) ∧ ∃ x y, σ = [some (.ref a), some (.ref b), some (.ref r0), x, y]) ⟨same_new hr0, ⟨[], [], upd_same, .nil, .refl _, .nil⟩, none, none, rfl⟩ (fun i σ H' _ h => SqL.of (h.1 _ _ hb)) (fun i x σ H1 hx h => ?_) (fun σ H' h => ?_)
  · obtain ⟨k1, ⟨us', bs', e1, a1, p1, s1⟩, x0, y0, rfl⟩ := h
    obtain ⟨B, hB, bB⟩ := hbs.get' hx
    obtain ⟨bq, rfl, hbq⟩ := bB
    have l1 : us'.length = bs'.length := a1.length
    have l2 : bs'.length ≤ 8 := by rw [p1.length_eq, List.length_take]; omega
    have okB := hok B (List.mem_of_getElem? hB)
    have okX : ∀ X ∈ bs', BlkOk8 n X := fun X hX => hok X (List.mem_of_mem_take (p1.mem_iff.mp hX))
    refine ⟨_, rfl, r0, us', rfl, .inl (SqL.of e1), ?_⟩
    -- the while
    refine ⟨fun m σ H2 => Same H1 H2 ∧ m ≤ bs'.length ∧ (∀ i (h : i < bs'.length), m ≤ i → rho p w bs'[i] < rho p w B) ∧ σ = [some (.ref a), some (.ref b), some (.ref r0), some (.ref bq), some (.int (m : Nat))], ⟨us'.length, Same.refl _, by omega, fun i h h' => absurd h (by omega), rfl⟩, ?_⟩
    rintro m σ2 H2 ⟨k2, hm, hlt, rfl⟩
    have fin : (∀ (h : m - 1 < bs'.length), 0 < m → rho p w B ≤ rho p w bs'[m - 1]) → ∀ H3, Same H2 H3 → Same H (upd H3 r0 (.lst (us'.take (Int.toNat (m : Nat)) ++ [.ref bq] ++ us'.drop (Int.toNat (m : Nat))))) ∧ (∃ us'' bs'', (upd H3 r0 (.lst (us'.take (Int.toNat (m : Nat)) ++ [.ref bq] ++ us'.drop (Int.toNat (m : Nat))))) r0 = some (.lst us'') ∧ All2 (BlkV (upd H3 r0 (.lst (us'.take (Int.toNat (m : Nat)) ++ [.ref bq] ++ us'.drop (Int.toNat (m : Nat)))))) us'' bs'' ∧ bs''.Perm (bs.take (i + 1)) ∧ bs''.Pairwise (fun X Y => rho p w Y ≤ rho p w X)) := fun h0 H3 k3 => by
      have k13 := k2.trans k3
      have e3 := k13 _ _ e1
      have kt : KT H3 (upd H3 r0 (.lst (us'.take (Int.toNat (m : Nat)) ++ [.ref bq] ++ us'.drop (Int.toNat (m : Nat))))) := KT.lst e3
      refine ⟨fun x o hx => ?_, _, bs'.take m ++ [B] ++ bs'.drop m, upd_same, ?_, ?_, insert_sorted s1 hm hlt h0⟩
      · rw [upd_ne (ne_of_none hx hr0)]
        exact k13 _ _ (k1 _ _ hx)
      · have a3 := a1.imp (r' := BlkV (upd H3 r0 (.lst (us'.take (Int.toNat (m : Nat)) ++ [.ref bq] ++ us'.drop (Int.toNat (m : Nat)))))) fun _ _ h => (h.kt (KT.same k13)).kt kt
        exact ((a3.take m).append (.cons ⟨bq, rfl, kt _ _ (k13 _ _ (k1 _ _ hbq))⟩ .nil)).append (a3.drop m)
      · refine (insert_perm bs' B m).trans ?_
        rw [take_snoc hB]
        exact p1.append_right [B]
    refine ⟨_, rfl, _, _, rfl, rfl, _, rfl, ?_⟩
    refine ite2 (fun cz => ?_) (fun cz => ?_)
    · have c' : (m : Int) > 0 := of_decide_eq_true cz
      have hm1 : m - 1 < bs'.length := by omega
      have eu : us'[m - 1]? = some (us'[m - 1]'(by omega)) := List.getElem?_eq_getElem (by omega)
      obtain ⟨X, hX, bX⟩ := a1.get' eu
      obtain ⟨xq, exq, hxq⟩ := bX
      have eX : bs'[m - 1] = X := by rw [List.getElem?_eq_getElem hm1] at hX; exact Option.some.inj hX
      have okx := okX X (List.mem_of_getElem? hX)
      have W2 := hW.kt (KT.same (k1.trans k2))
      refine ⟨_, rfl, _, rfl, _, rfl, _, _, rfl, rfl, _, _, _, _, rfl, rfl, SqL.of (k2 _ _ e1), (show atI us' ((m : Int) - 1) = some _ from by
        have : (m : Int) - 1 = ((m - 1 : Nat) : Int) := by omega
        rw [this]
        exact atI_nat eu), ?_⟩
      rw [exq]
      refine ⟨a, _, c, n, p, w, X, rfl, W2, ⟨xq, rfl, k2 _ _ hxq⟩, okx.1, okx.2.1, okx.2.2, fun r1 H3 t b1 k3 fr1 hr1 => ?_⟩
      refine ⟨_, rfl, _, rfl, a, _, c, n, p, w, B, rfl, W2.kt (KT.same k3), ⟨bq, rfl, k3 _ _ (k2 _ _ (k1 _ _ hbq))⟩, okB.1, okB.2.1, okB.2.2, fun r2 H4 t2 b2 k4 fr2 hr2 => ?_⟩
      refine ⟨_, _, t, b1, t2, b2, rfl, ⟨r1, rfl, k4 _ _ hr1⟩, ⟨r2, rfl, hr2⟩, fr1.t64, fr2.t64, _, rfl, ?_⟩
      have k24 := k3.trans k4
      refine ite2 (fun d => ?_) (fun d => ?_)
      · have d' : rho p w X < rho p w B := by
          have z := (frac_lt fr1.b0 fr2.b0).mp (of_decide_eq_true d)
          rw [fr1.v, fr2.v] at z
          exact z
        refine ⟨fun σ' H' => ∃ m', m' < m ∧ Same H1 H' ∧ m' ≤ bs'.length ∧ (∀ i (h : i < bs'.length), m' ≤ i → rho p w bs'[i] < rho p w B) ∧ σ' = [some (.ref a), some (.ref b), some (.ref r0), some (.ref bq), some (.int (m' : Nat))], fun _ _ h => h, ?_⟩
        refine ⟨_, rfl, _, _, rfl, rfl, m - 1, by omega, k2.trans k24, by omega, fun i hi hmi => ?_, ?_⟩
        · by_cases e : i = m - 1
          · subst e
            rw [eX]
            exact d'
          · exact hlt i hi (by omega)
        · have : (m : Int) - 1 = ((m - 1 : Nat) : Int) := by omega
          rw [← this]
          rfl
      · have d' : rho p w B ≤ rho p w X := by
          refine Rat.not_lt.mp fun z => d ?_
          rw [← fr1.v, ← fr2.v] at z
          exact decide_eq_true ((frac_lt fr1.b0 fr2.b0).mpr z)
        have e4 := (k2.trans k24) _ _ e1
        refine ⟨_, rfl, .inl ⟨rfl, _, SqL.of e4⟩, _, rfl, _, rfl, r0, us', (m : Nat), .ref bq, rfl, rfl, e4, lst_len (by omega), by omega, by omega, ?_⟩
        obtain ⟨f1, f2⟩ := fin (fun h _ => by rw [eX]; exact d') H4 k24
        exact ⟨f1, f2, _, _, rfl⟩
    · have c' : ¬ (m : Int) > 0 := fun z => cz (decide_eq_true z)
      have m0 : m = 0 := by omega
      subst m0
      have e2 := k2 _ _ e1
      refine ⟨_, rfl, .inl ⟨rfl, _, SqL.of e2⟩, _, rfl, _, rfl, r0, us', ((0 : Nat) : Int), .ref bq, rfl, rfl, e2, lst_len (by omega), by omega, by omega, ?_⟩
      obtain ⟨f1, f2⟩ := fin (fun h z => absurd z (by omega)) H2 (Same.refl _)
      exact ⟨f1, f2, _, _, rfl⟩
  · obtain ⟨k1, ⟨us', bs', e1, a1, p1, s1⟩, x0, y0, rfl⟩ := h
    rw [hbs.length, List.take_length] at p1
    exact ⟨_, rfl, q r0 H' us' bs' k1 hr0 e1 a1 p1 s1⟩
end
end NW
/-! k67 by hand, 5: what is paid -/
namespace NW
open PySem PySem.Spec PyProof.Rows L2
/-- an entry of prices -/
def EntV (H : Hp) (v : V) (e : Ent) : Prop := ∃ b s q, v = .ref b ∧ H b = some (.tup [nv e.a, .ref s, .ref q]) ∧ H s = some (.tup (e.S.map nv)) ∧ H q = some (.tup [.int e.t, .int e.b])
theorem EntV.kt {H H' : Hp} {v : V} {e : Ent} (k : KT H H') : EntV H v e → EntV H' v e := fun ⟨b, s, q, e1, h1, h2, h3⟩ => ⟨b, s, q, e1, k _ _ h1, k _ _ h2, k _ _ h3⟩
theorem le_nodup_lt {l : List Nat} (h : l.Pairwise (· ≤ ·)) (n : l.Nodup) : l.Pairwise (· < ·) := by
  have n' : l.Pairwise (· ≠ ·) := n
  refine (h.and n').imp fun {a b} q => ?_
  have q1 := q.1
  have q2 := q.2
  omega
/-- sorted of numbers of works -/
theorem sorted_nats {l : List Nat} {ns : List Int} (hp : ns.Perm (l.map fun j : Nat => (j : Int))) (hs : ns.Pairwise (· ≤ ·)) (hn : l.Nodup) : ∃ S : List Nat, S.Perm l ∧ S.Pairwise (· < ·) ∧ ns.map V.int = S.map nv := by
  obtain ⟨S, p1, rfl⟩ := perm_map_inv hp
  refine ⟨S, p1, le_nodup_lt ?_ (p1.nodup_iff.mpr hn), (nv_map S).symm⟩
  rw [List.pairwise_map] at hs
  exact hs.imp fun h => by omega
theorem flat_take_len {α : Type} {T : List (List α)} {k : Nat} : ((T.take k).flatten).length ≤ T.flatten.length := by
  have : T.flatten = (T.take k).flatten ++ (T.drop k).flatten := by rw [← List.flatten_append, List.take_append_drop]
  rw [this, List.length_append]; omega
theorem flat_take_nd {α : Type} {T : List (List α)} {k : Nat} (h : T.flatten.Nodup) : ((T.take k).flatten).Nodup := by
  have : T.flatten = (T.take k).flatten ++ (T.drop k).flatten := by rw [← List.flatten_append, List.take_append_drop]
  rw [this] at h
  exact (List.nodup_append.mp h).1
section
variable {P : Program} {w : World} {K : PySem.W.Frag} {mg : Str → Option Value} {base : Heap}
abbrev s_paid : Stmt := top 37
theorem sc_paid : FnScope ["works", "a", "taken", "block", "found", "some", "k", "one", "after"] ["works", "a", "taken", "block"] (defScope s_paid) := ⟨rfl, rfl, rfl, by decide +kernel, rfl, by decide +kernel, by decide +kernel⟩
def sp_paid : Sp := fun vs H Q _ => ∃ (a b bk : Addr) (j0 : Nat) (c : Int) (n : Nat) (p w : Nat → Int) (us : List V) (T : List (List Nat)) (B : List Nat), vs = [.ref a, nv j0, .ref b, .ref bk] ∧ Works H a c n p w ∧ H b = some (.lst us) ∧ All2 (BlkV H) us T ∧ H bk = some (.tup (B.map nv)) ∧
  (∀ X ∈ T, BlkOk8 n X) ∧ BlkOk8 n B ∧ T.length ≤ 8 ∧ T.flatten.length ≤ 8 ∧ T.flatten.Nodup ∧
  ∀ r H' us' es, Same H H' → H r = none → H' r = some (.lst us') → All2 (EntV H') us' es → PaidOk p w j0 T B es → Q (.ref r) H'
theorem r_paid (D : Df K mg "paid" s_paid) (T : Bi mg) (R_minus : Rdy P w K mg base "minus" 3 ["one", "other"] sp_minus) (R_rate : Rdy P w K mg base "rate" 3 ["works", "block"] sp_rate) : Rdy P w K mg base "paid" 4 ["works", "a", "taken", "block"] sp_paid := by
  refine rdy D sc_paid (fun _ _ _ _ _ _ us hl => match us, hl with | [_, _, _, _], _ => rfl) (fun vs H Q E h => ?_) (fun f cdv A outer s H vs Q E hr h => ?_)
  · obtain ⟨a, b, bk, j0, c, n, p, w, us, TT, B, rfl, _⟩ := h
    rfl
  obtain ⟨a, b, bk, j0, c, n, p, w, us, TT, B, rfl, hW, hb, hT, hB, okT, okB, t8, f8, fn, q⟩ := h
  refine ⟨_, (pss_cons (ps_set (i := 4) sc_paid.nd rfl (Or.inl rfl) (pe_lst pa_nil))
    (pss_cons (ps_set (i := 5) sc_paid.nd rfl (Or.inl rfl) (pe_lst pa_nil))
    (pss_cons (ps_for PassesOwn.never rfl (pi_enum rfl T.b_enumerate (pa_cons (pv 2) pa_nil)) (pg_tup rfl (pgs_cons (pg_name (i := 6) sc_paid.nd rfl (Or.inl rfl)) (pgs_cons (pg_name (i := 7) sc_paid.nd rfl (Or.inl rfl)) pgs_nil)))
      (pss_cons (ps_set (i := 5) sc_paid.nd rfl (Or.inl rfl) (pe_op op_cat (pv 5) (pe_callTy call_list_of rfl T.b_list (by decide +kernel) (pa_cons (pv 7) pa_nil))))
      (pss_cons (ps_set (i := 8) sc_paid.nd rfl (Or.inl rfl) (pe_ifExp (pt_cmpR op_lt (pe_op op_add (pv 6) pe_int) (pe_callB call_len_seq rfl T.b_len PySem.boot_len (pa_cons (pv 2) pa_nil)) (nomark _)) (pe_ix ix_list (pv 2) (pe_op op_add (pv 6) pe_int) (fun _ _ => rfl)) (pv 3)))
      (pss_one (ps_expr (pe_bm PySem.F.plainAttrs_list PySem.F.slot_list_append PySem.F.type_list_append mt_append (pv 4) (pa_cons (pe_tup (pa_cons (pv 1) (pa_cons (pe_callTy call_tuple_of rfl T.b_tuple (by decide +kernel) (pa_cons (pe_callB cr_sorted rfl T.b_sorted (by decide +kernel) (pa_cons (pv 5) pa_nil)) pa_nil)) (pa_cons (pe_cl R_minus hr (pa_cons (pe_cl R_rate hr (pa_cons (pv 0) (pa_cons (pv 7) pa_nil))) (pa_cons (pe_cl R_rate hr (pa_cons (pv 0) (pa_cons (pv 8) pa_nil))) pa_nil))) pa_nil)))) pa_nil)))))))
    (pss_one (ps_ret (pv 4)))))), ?_⟩
  have hTl : us.length = TT.length := hT.length
  refine ⟨(by show 0 ≤ sizeLine; decide), fun r0 hr0 => ?_⟩
  have k0 : Same H (upd H r0 (.lst [])) := same_new hr0
  refine ⟨(by show 0 ≤ sizeLine; decide), fun s0 hs0 => ?_⟩
  have k1 : Same H (upd (upd H r0 (.lst [])) s0 (.lst [])) := k0.trans (same_new hs0)
  have ns0 : s0 ≠ r0 := fun z => by rw [z, upd_same] at hs0; cases hs0
  refine ⟨_, rfl, b, us, rfl, SqL.of (k1 _ _ hb), ?_⟩
  refine for_it walk_enum (fun i σ H' => Same H H' ∧ (∃ us' es, H' r0 = some (.lst us') ∧ All2 (EntV H') us' es ∧ es.length = i ∧ ∀ k (h : k < es.length), PaidAt p w j0 TT B k es[k]) ∧
      ∃ si x y z, si ≠ r0 ∧ H' si = some (.lst (((TT.take i).flatten).map nv)) ∧ σ = [some (.ref a), some (nv j0), some (.ref b), some (.ref bk), some (.ref r0), some (.ref si), x, y, z])
    ⟨k1, ⟨[], [], by rw [upd_ne (Ne.symm ns0), upd_same], .nil, rfl, fun k h => absurd h (by simp)⟩, s0, none, none, none, ns0, upd_same, rfl⟩ (fun i σ H' _ h => SqL.of (h.1 _ _ hb)) (fun i x σ H0 H1 hi h y => ?_) (fun σ H' h => ?_)
  · obtain ⟨kk, ⟨us', es, e1, a1, l1, pa⟩, si, x0, y0, z0, nsi, e2, rfl⟩ := h
    have ky := yPair_same _ _ _ _ y
    obtain ⟨t, x1, v, rfl, ht, rfl, ex1, ex2⟩ := y
    cases ex1
    obtain ⟨X, hX, xq, rfl, hxq⟩ := hT.get' ex2
    have i8 : i < TT.length := by omega
    have eX : TT[i] = X := by rw [List.getElem?_eq_getElem i8] at hX; exact Option.some.inj hX
    have okX := okT X (List.mem_of_getElem? hX)
    have K1 : Same H (upd H0 t (.tup [.int (i : Nat), .ref xq])) := kk.trans ky
    generalize hH1 : upd H0 t (.tup [.int (i : Nat), .ref xq]) = H1 at ky K1
    have htt : H1 t = some (.tup [.int (i : Nat), .ref xq]) := by rw [← hH1, upd_same]
    have fl := flat_take_len (T := TT) (k := i)
    have fl1 := flat_take_len (T := TT) (k := i + 1)
    have eF : (TT.take (i + 1)).flatten = (TT.take i).flatten ++ X := by rw [take_flat i8, eX]
    refine ⟨_, _, rfl, SqT.of htt, rfl, _, _, rfl, _, _, rfl, rfl, ?_⟩
    -- some = some + list(one)
    refine ⟨_, rfl, _, rfl, xq, _, rfl, .inr (SqT.of (K1 _ _ hxq)), fun l2 hl2 => ?_⟩
    have K2 : Same H1 (upd H1 l2 (.lst (X.map nv))) := same_new hl2
    refine ⟨si, l2, _, _, rfl, rfl, K2 _ _ (ky _ _ e2), upd_same, ?_, fun s3 hs3 => ?_⟩
    · rw [← List.length_append, ← List.map_append, ← eF, List.length_map]
      exact Nat.le_of_lt (lst_len (by omega))
    rw [← List.map_append, ← eF]
    generalize hH3 : upd (upd H1 l2 (.lst (X.map nv))) s3 (.lst (((TT.take (i + 1)).flatten).map nv)) = H3
    have K3 : Same H1 H3 := by rw [← hH3]; exact K2.trans (same_new hs3)
    have hs3' : H3 s3 = some (.lst (((TT.take (i + 1)).flatten).map nv)) := by rw [← hH3, upd_same]
    have ns3 : s3 ≠ r0 := fun z => by
      have q1 := K2 _ _ (ky _ _ e1)
      rw [← z, hs3] at q1
      cases q1
    have K13 : Same H H3 := K1.trans K3
    -- after
    have aft : ∀ R : V → Hp → Prop, (∀ aq, H aq = some (.tup (((TT ++ [B]).getD (i + 1) []).map nv)) → BlkOk8 n ((TT ++ [B]).getD (i + 1) []) → R (.ref aq) H3) →
        tIf (tTest (tOp (rI0 fun i j => V.bl (decide (i < j))) (tOp (rI0 fun i j => V.int (i + j)) (tVar 6) (tC (.int 1))) (tCB (fun xs H Q => ∃ p ys, xs = [.ref p] ∧ (SqL K H p ys ∨ SqT K H p ys) ∧ Q (.int ys.length) H) (tCons (tVar 2) tNil)))) (tOp (rIxL K) (tVar 2) (tOp (rI0 fun i j => V.int (i + j)) (tVar 6) (tC (.int 1)))) (tVar 3)
          [some (.ref a), some (nv j0), some (.ref b), some (.ref bk), some (.ref r0), some (.ref s3), some (.int (i : Nat)), some (.ref xq), z0] H3 R := fun R hR => by
      refine ⟨_, rfl, _, _, rfl, rfl, _, rfl, b, us, rfl, .inl (SqL.of (K13 _ _ hb)), _, _, rfl, rfl, _, rfl, ?_⟩
      refine ite2 (fun cz => ?_) (fun cz => ?_)
      · have c' : (i : Int) + 1 < (us.length : Int) := of_decide_eq_true cz
        have i1 : i + 1 < us.length := by omega
        have eu : us[i + 1]? = some us[i + 1] := List.getElem?_eq_getElem i1
        obtain ⟨Y, hY, yq, eyq, hyq⟩ := hT.get' eu
        have eY : (TT ++ [B]).getD (i + 1) [] = Y := by
          rw [List.getD_eq_getElem?_getD, List.getElem?_append_left (by omega), hY]; rfl
        refine ⟨_, rfl, _, rfl, _, _, rfl, rfl, _, _, _, _, rfl, rfl, SqL.of (K13 _ _ hb), (show atI us ((i : Int) + 1) = some _ from at_of (j := i + 1) (by omega) eu), ?_⟩
        rw [eyq]
        refine hR yq ?_ ?_
        · rw [eY]; exact hyq
        · rw [eY]; exact okT Y (List.mem_of_getElem? hY)
      · have c' : ¬ (i : Int) + 1 < (us.length : Int) := fun z => cz (decide_eq_true z)
        have eY : (TT ++ [B]).getD (i + 1) [] = B := by
          have : i + 1 = TT.length := by omega
          rw [List.getD_eq_getElem?_getD, this, List.getElem?_append_right (Nat.le_refl _)]; simp
        refine ⟨_, rfl, hR bk ?_ ?_⟩
        · rw [eY]; exact hB
        · rw [eY]; exact okB
    refine aft _ fun aq haq okA => ?_
    -- found.append(..)
    have e13 : H3 r0 = some (.lst us') := K3 _ _ (ky _ _ e1)
    refine ⟨_, rfl, .inl ⟨rfl, _, SqL.of e13⟩, ?_⟩
    refine ⟨_, rfl, _, rfl, s3, ((TT.take (i + 1)).flatten).map (fun j : Nat => (j : Int)), rfl, SqL.of (by rw [hs3', nv_map]), by rw [List.length_map]; omega, fun ns p4 pn sn hp4 => ?_⟩
    obtain ⟨S, pS, sS, eS⟩ := sorted_nats pn sn (flat_take_nd fn)
    have K4 : Same H3 (upd H3 p4 (.lst (ns.map V.int))) := same_new hp4
    refine ⟨p4, _, rfl, .inl ⟨SqL.of upd_same, fun s5 hs5 => ?_⟩⟩
    rw [eS] at hs5 K4 ⊢
    generalize hH5 : upd (upd H3 p4 (.lst (S.map nv))) s5 (.tup (S.map nv)) = H5
    have K5 : Same H3 H5 := by rw [← hH5]; exact K4.trans (same_new hs5)
    have hs5' : H5 s5 = some (.tup (S.map nv)) := by rw [← hH5, upd_same]
    have W5 := hW.kt (KT.same (K13.trans K5))
    refine ⟨_, rfl, _, rfl, a, _, c, n, p, w, X, rfl, W5, ⟨xq, rfl, K5 _ _ (K13 _ _ hxq)⟩, okX.1, okX.2.1, okX.2.2, fun r1 H6 t1 b1 K6 fr1 hr1 => ?_⟩
    refine ⟨_, rfl, _, rfl, a, _, c, n, p, w, _, rfl, W5.kt (KT.same K6), ⟨aq, rfl, K6 _ _ (K5 _ _ (K13 _ _ haq))⟩, okA.1, okA.2.1, okA.2.2, fun r2 H7 t2 b2 K7 fr2 hr2 => ?_⟩
    refine ⟨_, _, t1, b1, t2, b2, _, _, rfl, ⟨r1, rfl, K7 _ _ hr1⟩, ⟨r2, rfl, hr2⟩, fr1, fr2, fun r3 H8 t3 b3 K8 fr3 hr3 => ?_⟩
    have K58 : Same H5 H8 := K6.trans (K7.trans K8)
    refine ⟨(by show 3 ≤ sizeLine; decide), fun p9 hp9 => ?_⟩
    generalize hH9 : upd H8 p9 (.tup [nv j0, .ref s5, .ref r3]) = H9
    have K9 : Same H8 H9 := by rw [← hH9]; exact same_new hp9
    have hp9' : H9 p9 = some (.tup [nv j0, .ref s5, .ref r3]) := by rw [← hH9, upd_same]
    have K39 : Same H3 H9 := K5.trans (K58.trans K9)
    have e19 : H9 r0 = some (.lst us') := K39 _ _ e13
    have ul : us'.length = es.length := a1.length
    refine ⟨r0, us', .ref p9, rfl, rfl, e19, lst_len (by omega), ?_⟩
    have kt : KT H9 (upd H9 r0 (.lst (us' ++ [.ref p9]))) := KT.lst e19
    refine ⟨fun x o hx => ?_, ⟨us' ++ [.ref p9], es ++ [⟨j0, S, t3, b3⟩], upd_same, ?_, ?_, fun k hk => ?_⟩, s3, _, _, _, ns3, ?_, rfl⟩
    · rw [upd_ne (ne_of_none hx hr0)]
      exact K39 _ _ (K13 _ _ hx)
    · refine (a1.imp fun _ _ h => h.kt (KT.trans (KT.same (ky.trans (K3.trans K39))) kt)).snoc ⟨p9, s5, r3, rfl, kt _ _ hp9', kt _ _ (K9 _ _ (K58 _ _ hs5')), kt _ _ (K9 _ _ hr3)⟩
    · rw [List.length_append, l1]; rfl
    · by_cases e : k < es.length
      · rw [List.getElem_append_left e]
        exact pa k e
      · have ek : k = i := by
          rw [List.length_append] at hk
          simp at hk; omega
        subst ek
        rw [List.getElem_append_right (by omega)]
        have el : ([⟨j0, S, t3, b3⟩] : List Ent)[k - es.length]'(by simp; omega) = ⟨j0, S, t3, b3⟩ := by simp
        rw [el]
        refine ⟨rfl, pS, sS, fr3.b0, fr3.g, ?_, fr3.bb, ?_⟩
        · have := fr3.tb
          show t3 < 2 ^ 59
          omega
        · show (t3 : Rat) / b3 = _
          rw [fr3.v]
          have : (TT ++ [B]).getD k [] = X := by
            rw [List.getD_eq_getElem?_getD, List.getElem?_append_left i8, hX]; rfl
          rw [this]
    · rw [upd_ne ns3]
      exact K39 _ _ hs3'
  · obtain ⟨kk, ⟨us', es, e1, a1, l1, pa⟩, si, x0, y0, z0, nsi, e2, rfl⟩ := h
    exact ⟨_, rfl, q r0 H' us' es kk hr0 e1 a1 ⟨by omega, pa⟩⟩
end
end NW
/-! k67 by hand, 6: the checker of prices, first half -/
namespace NW
open PySem PySem.Spec PyProof.Rows L2
theorem inV_nv (j : Nat) (l : List Nat) : inV (nv j) (l.map nv) = decide (j ∈ l) := by
  unfold inV
  rw [List.any_map]
  induction l with
  | nil => rfl
  | cons x r ih =>
    rw [List.any_cons, ih]
    show ((x : Int) == (j : Int) || decide (j ∈ r)) = decide (j ∈ x :: r)
    by_cases h : x = j
    · subst h; simp
    · have h1 : ((x : Int) == (j : Int)) = false := by
        simp; omega
      have h2 : ¬ j = x := fun z => h z.symm
      rw [h1]; simp [h2]
theorem flat_nv (l : List Nat) : (l.map nv).all flatV = true := by
  rw [List.all_map, List.all_eq_true]
  intro x _
  rfl
theorem cut1 (xs : List V) : cutV xs (some 1) none = xs.drop 1 := by
  unfold cutV
  have h1 : HT.sIx xs.length 0 (some 1) = min 1 xs.length := HT.sIx_nat xs.length 0 1
  have h2 : HT.sIx xs.length xs.length none = xs.length := rfl
  rw [h1, h2]
  cases xs with
  | nil => rfl
  | cons x r =>
    rw [show min 1 (x :: r).length = 1 by simp only [List.length_cons]; omega]
    rw [List.take_of_length_le]
    simp
section
variable {P : Program} {w : World} {K : PySem.W.Frag} {mg : Str → Option Value} {base : Heap}
abbrev s_is_some : Stmt := top 29
theorem sc_is_some : FnScope ["many", "thing", "one", "other"] ["many", "thing"] (defScope s_is_some) := ⟨rfl, rfl, rfl, by decide +kernel, rfl, by decide +kernel, by decide +kernel⟩
def sp_is_some : Sp := fun vs H Q _ => ∃ (n : Nat) (v : V) (S : List Nat), vs = [nv n, v] ∧ BlkV H v S ∧ (∀ j ∈ S, j < n) ∧ S.Pairwise (· < ·) ∧ S.length ≤ 8 ∧ ∀ H', Same H H' → Q (.bl true) H'
theorem r_is_some (D : Df K mg "is_some" s_is_some) (T : Bi mg) (R_is_number_of_work : Rdy P w K mg base "is_number_of_work" 1 ["many", "thing"] sp_is_number_of_work) : Rdy P w K mg base "is_some" 2 ["many", "thing"] sp_is_some := by
  refine rdy D sc_is_some (fun _ _ _ _ _ _ us hl => match us, hl with | [_, _], _ => rfl) (fun vs H Q E h => ?_) (fun f cdv A outer s H vs Q E hr h => ?_)
  · obtain ⟨n, v, S, rfl, _⟩ := h
    rfl
  obtain ⟨n, v, S, rfl, ⟨b, rfl, hb⟩, hn, hs, h8, q⟩ := h
  refine ⟨_, (pss_cons (ps_if (PW.pt (pw_or (pt_not (pt_val (pe_callB call_isi rfl T.b_isinstance (by decide +kernel) (pa_cons (pv 1) (pa_cons (pe_bltn (v := .ty "tuple") rfl T.b_tuple (by decide +kernel) rfl) pa_nil))))) (pw_or1 (pt_not (pt_val (pe_callB (cr_all rfl) rfl T.b_all (by decide +kernel) (pa_cons (pe_lc (own := [("one", 2)]) rfl sc_is_some.nd (pi_tup (pv 1)) (blkOk_by (N := ["many", "thing", "one", "other"]) (sc := defScope s_is_some) (by decide +kernel)) (fun _ _ _ _ _ => (pg_name (i := 2) sc_is_some.nd rfl (Or.inl rfl) (Or.inr rfl))) (fun _ _ _ _ _ => pts_nil) (fun _ _ _ _ _ => (pe_cl R_is_number_of_work hr (pa_cons (pv 0) (pa_cons (pv 2) pa_nil))))) pa_nil))))))) (pss_one (ps_ret pe_bl)) pss_nil)
    (pss_one (ps_ret (pe_callB (cr_all rfl) rfl T.b_all (by decide +kernel) (pa_cons (pe_lc (own := [("one", 2), ("other", 3)]) rfl sc_is_some.nd (RZ.pi_zipA rfl T.b_zip (pa_cons (pv 1) (pa_cons (pe_slice sl_tupA (pv 1) (po_some pe_int) po_none) pa_nil))) (blkOk_by (N := ["many", "thing", "one", "other"]) (sc := defScope s_is_some) (by decide +kernel)) (fun _ _ _ _ _ => (pg_tupK K 2 rfl (pgs_cons (pg_name (i := 2) sc_is_some.nd rfl (Or.inl rfl) (Or.inr rfl)) (pgs_cons (pg_name (i := 3) sc_is_some.nd rfl (Or.inl rfl) (Or.inr rfl)) pgs_nil)))) (fun _ _ _ _ _ => pts_nil) (fun _ _ _ _ _ => (pe_cmpR op_lt (pv 2) (pv 3) (nomark _)))) pa_nil))))), ?_⟩
  refine ⟨_, rfl, _, _, _, _, true, rfl, .ty _, .base (.tup hb), kit_ty (by decide +kernel), _, rfl, iteF ?_⟩
  refine ⟨_, rfl, b, rfl, ⟨_, SqT.of hb⟩, fun D hD => ?_⟩
  refine lc_fm walk_tup (fun _ => some (.bl true)) hD (by rw [List.length_map]; omega) (fun H' k => SqT.of (k _ _ hb)) yAt_same (fun i x H0 H' R N hi k y r1 _ => ?_) (fun H1 k1 hl1 => ?_)
  · obtain ⟨j, hj, rfl⟩ := nv_at y.2
    exact ⟨rfl, yes (iteT ⟨_, rfl, _, rfl, n, j, rfl, hn j (List.mem_of_getElem? hj), r1 _ _ rfl (Same.refl _)⟩)⟩
  refine ⟨D, List.replicate (S.map nv).length true, rfl, SqL.of (by rw [hl1, fm_rep]), _, rfl, ?_⟩
  rw [all_rep]
  refine iteF ?_
  -- zip(thing, thing[1:])
  have hb1 := k1 _ _ hb
  have rest : ∀ (q1 : Addr) (H2 : Hp), Same H1 H2 → H2 q1 = some (.tup ((S.map nv).drop 1)) → ∀ D2, H2 D2 = none → ∃ W : Nat → Nat → Hp → Prop, (∃ m, W 0 m (upd H2 D2 (.lst []))) ∧ ∀ i m H, W i m H →
      ((RZ.ItzT K b q1).stop i H ∧ (tCB (rAll K) (fun σ H Q => Q [.ref D2] H)) [some (nv n), some (.ref b), none, none] H Q) ∨ ((RZ.ItzT K b q1).go i H ∧ ∃ Nx : Hp → Prop, (∀ H', Nx H' → ∃ m', m' < m ∧ W (i + 1) m' H') ∧ ∀ x H', (RZ.ItzT K b q1).yld i H x H' → (gTup K 2 (gCons (gName 2) (gCons (gName 3) gNil))) x (wipe [some (nv n), some (.ref b), none, none] [2, 3]) H' fun σ2 H2 => wipe σ2 [2, 3] = wipe [some (nv n), some (.ref b), none, none] [2, 3] ∧ tYes σ2 H2 fun bb H3 =>
        if bb = true then (tOp (rI0 fun i j => V.bl (decide (i < j))) (tVar 2) (tVar 3)) σ2 H3 fun y H4 => ∃ acc, H4 D2 = some (.lst acc) ∧ acc.length < sizeLine ∧ Nx (upd H4 D2 (.lst (acc ++ [y]))) else Nx H3) := fun q1 H2 k2 hq D2 hD2 => by
    refine lc_fm (walk_zipT (xs := S.map nv) (ys := (S.map nv).drop 1) rfl) (fun _ => some (.bl true)) hD2 (by rw [List.length_map]; omega) (fun H' k => ⟨SqT.of (k _ _ (k2 _ _ hb1)), SqT.of (k _ _ hq)⟩) yPair_same (fun i x H0 H' R N hi k y r1 _ => ?_) (fun H3 k3 hl3 => ?_)
    · obtain ⟨t, x1, x2, rfl, ht, rfl, e1, e2⟩ := y
      obtain ⟨j1, hj1, rfl⟩ := nv_at e1
      have e2' : ((S.map nv).drop 1)[i]? = some x2 := e2
      rw [List.getElem?_drop] at e2'
      obtain ⟨j2, hj2, rfl⟩ := nv_at e2'
      refine ⟨_, _, rfl, SqT.of upd_same, rfl, ?_⟩
      refine ⟨_, _, rfl, _, _, rfl, rfl, rfl, yes (iteT ⟨_, rfl, _, rfl, _, _, rfl, rfl, ?_⟩)⟩
      have lt : j1 < j2 := by
        obtain ⟨h1, g1⟩ := List.getElem?_eq_some_iff.mp hj1
        obtain ⟨h2, g2⟩ := List.getElem?_eq_some_iff.mp hj2
        have := List.pairwise_iff_getElem.mp hs i (1 + i) h1 h2 (by omega)
        rw [g1, g2] at this
        exact this
      have e : R (.bl (decide ((j1 : Int) < (j2 : Int)))) (upd H0 t (.tup [nv j1, nv j2])) := by
        rw [decide_eq_true (by omega)]
        exact r1 _ _ rfl (Same.refl _)
      exact e
    · refine ⟨D2, List.replicate _ true, rfl, SqL.of (by rw [hl3, fm_rep]), ?_⟩
      rw [all_rep]
      exact q _ (k1.trans (k2.trans k3))
  refine ⟨_, rfl, _, rfl, _, rfl, b, S.map nv, rfl, SqT.of hb1, fun hw => ?_, fun hw p2 hp2 => ?_⟩
  · have h1 : HT.sIx (S.map nv).length 0 (some 1) = min 1 (S.map nv).length := HT.sIx_nat _ 0 1
    have e : (S.map nv).drop 1 = S.map nv := by
      have := hw.1
      rw [h1] at this
      cases S with
      | nil => rfl
      | cons x r => simp only [List.map_cons, List.length_cons] at this; omega
    exact ⟨b, b, _, _, rfl, .inr ⟨SqT.of hb1, SqT.of hb1, fun D2 hD2 => rest b H1 (Same.refl _) (by rw [e]; exact hb1) D2 hD2⟩⟩
  · have k2 : Same H1 (upd H1 p2 (.tup (cutV (S.map nv) (some 1) none))) := same_new hp2
    have hq : (upd H1 p2 (.tup (cutV (S.map nv) (some 1) none))) p2 = some (.tup ((S.map nv).drop 1)) := by rw [upd_same, cut1]
    exact ⟨b, p2, _, _, rfl, .inr ⟨SqT.of (k2 _ _ hb1), SqT.of hq, fun D2 hD2 => rest p2 _ k2 hq D2 hD2⟩⟩

abbrev s_behind : Stmt := top 24
theorem sc_behind : FnScope ["many", "wishes", "a", "found", "turn", "one", "after"] ["many", "wishes", "a"] (defScope s_behind) := ⟨rfl, rfl, rfl, by decide +kernel, rfl, by decide +kernel, by decide +kernel⟩
def sp_behind : Sp := fun vs H Q _ => ∃ (n a : Nat) (wa : Addr) (wl : List (Nat × Nat)) (rk : Nat → Nat), vs = [nv n, .ref wa, nv a] ∧ Wsh H wa wl ∧ Ranked wl rk n ∧ n ≤ 8 ∧ wl.length ≤ 8 ∧
  ∀ (r : Addr) (H' : Hp) (xs : List Nat), Same H H' → H' r = some (.tup (xs.map nv)) → (∀ b, Reach wl a b → b ∈ xs) → Q (.ref r) H'
theorem r_behind (D : Df K mg "behind" s_behind) (T : Bi mg) : Rdy P w K mg base "behind" 1 ["many", "wishes", "a"] sp_behind := by
  refine rdy D sc_behind (fun _ _ _ _ _ _ us hl => match us, hl with | [_, _, _], _ => rfl) (fun vs H Q E h => ?_) (fun f cdv A outer s H vs Q E hr h => ?_)
  · obtain ⟨n, a, wa, wl, rk, rfl, _⟩ := h
    rfl
  obtain ⟨n, a, wa, wl, rk, rfl, ⟨us, hwa, hwl⟩, hrk, n8, w8, q⟩ := h
  refine ⟨_, (pss_cons (ps_set (i := 3) sc_behind.nd rfl (Or.inl rfl) (pe_lst (pa_cons (pv 2) pa_nil)))
    (pss_cons (ps_for PassesOwn.never rfl (pi_range1 rfl T.b_range (pa_cons (pv 0) pa_nil)) (pg_name (i := 4) sc_behind.nd rfl (Or.inl rfl))
      (pss_one (ps_for PassesOwn.never rfl (pi_tup (pv 1)) (pg_tup rfl (pgs_cons (pg_name (i := 5) sc_behind.nd rfl (Or.inl rfl)) (pgs_cons (pg_name (i := 6) sc_behind.nd rfl (Or.inl rfl)) pgs_nil)))
        (pss_one (ps_if (PW.pt (pw_and (pt_cmpR op_in_seq (pv 5) (pv 3) (by rfl)) (pw_and1 (pt_cmpR op_notIn_seq (pv 6) (pv 3) (by rfl))))) (pss_one (ps_expr (pe_bm PySem.F.plainAttrs_list PySem.F.slot_list_append PySem.F.type_list_append mt_append (pv 3) (pa_cons (pv 6) pa_nil)))) pss_nil)))))
    (pss_one (ps_ret (pe_callTy call_tuple_of rfl T.b_tuple (by decide +kernel) (pa_cons (pe_callB cr_sortedI rfl T.b_sorted (by decide +kernel) (pa_cons (pe_slice sl_list (pv 3) (po_some pe_int) po_none) pa_nil)) pa_nil)))))), ?_⟩
  have wll : us.length = wl.length := hwl.length
  refine ⟨_, rfl, (by show 1 ≤ sizeLine; decide), fun r0 hr0 => ?_⟩
  refine ⟨_, rfl, (n : Int), rfl, by omega, by omega, ?_⟩
  refine for_range (n := n) (fun t σ H' => Same H H' ∧ (∃ fr : List Nat, H' r0 = some (.lst ((a :: fr).map nv)) ∧ fr.length ≤ t * wl.length ∧ ∀ b, Reach wl a b → rk b ≤ rk a + t → b ∈ fr) ∧ ∃ x y z, σ = [some (nv n), some (.ref wa), some (nv a), some (.ref r0), x, y, z])
    ⟨same_new hr0, ⟨[], upd_same, Nat.zero_le _, fun b hb hk => absurd (hrk.reach hb).1 (by omega)⟩, none, none, none, rfl⟩ (fun t σ H1 ht h => ?_) (fun σ H1 h => ?_)
  · obtain ⟨k1, ⟨fr, e1, l1, c1⟩, x0, y0, z0, rfl⟩ := h
    refine ⟨_, rfl, wa, rfl, ⟨_, SqT.of (k1 _ _ hwa)⟩, ?_⟩
    refine for_tup (fun i σ H' => Same H H' ∧ (∃ fr2 : List Nat, H' r0 = some (.lst ((a :: fr2).map nv)) ∧ fr2.length ≤ t * wl.length + i ∧ (∀ b ∈ fr, b ∈ fr2) ∧ (∀ e ∈ wl.take i, (e.1 = a ∨ e.1 ∈ fr) → e.2 = a ∨ e.2 ∈ fr2)) ∧ ∃ x y z, σ = [some (nv n), some (.ref wa), some (nv a), some (.ref r0), x, y, z])
      ⟨k1, ⟨fr, e1, by omega, fun _ h => h, fun e he => by simp at he⟩, _, _, _, rfl⟩ (fun i σ H' _ h => SqT.of (h.1 _ _ hwa)) (fun i x σ H2 hx h => ?_) (fun σ H2 h => ?_)
    · obtain ⟨k2, ⟨fr2, e2, l2, m2, c2⟩, x1, y1, z1, rfl⟩ := h
      obtain ⟨e, he, eb, rfl, heb⟩ := hwl.get' hx
      have il : i < wl.length := (List.getElem?_eq_some_iff.mp he).1
      have t7 : t * wl.length ≤ 7 * 8 := Nat.mul_le_mul (by omega) w8
      refine ⟨_, _, rfl, SqT.of (k2 _ _ heb), rfl, _, _, rfl, _, _, rfl, rfl, ?_⟩
      refine ⟨_, rfl, _, rfl, r0, _, rfl, .inl (SqL.of e2), rfl, flat_nv _, _, rfl, ?_⟩
      rw [if_neg Bool.false_ne_true, inV_nv]
      have keep : ¬ ((e.1 = a ∨ e.1 ∈ fr2) ∧ ¬ (e.2 = a ∨ e.2 ∈ fr2)) → ∀ e' ∈ wl.take (i + 1), (e'.1 = a ∨ e'.1 ∈ fr) → e'.2 = a ∨ e'.2 ∈ fr2 := fun hno e' he' hh => by
        rw [take_snoc he, List.mem_append, List.mem_singleton] at he'
        rcases he' with he' | rfl
        · exact c2 e' he' hh
        · refine Classical.byContradiction fun z => hno ⟨?_, z⟩
          rcases hh with hh | hh
          · exact .inl hh
          · exact .inr (m2 _ hh)
      refine ite2 (fun d1 => ?_) (fun d1 => ?_)
      · have d1' : e.1 = a ∨ e.1 ∈ fr2 := by simpa using of_decide_eq_true d1
        refine ⟨_, rfl, _, rfl, r0, _, rfl, .inl (SqL.of e2), rfl, flat_nv _, _, rfl, ?_⟩
        rw [if_pos rfl, inV_nv]
        refine ite2 (fun d2 => ?_) (fun d2 => ?_)
        · have d2' : ¬ (e.2 = a ∨ e.2 ∈ fr2) := by simpa using d2
          refine ⟨_, rfl, .inl ⟨rfl, _, SqL.of e2⟩, _, rfl, r0, _, nv e.2, rfl, rfl, e2, by rw [List.length_map, List.length_cons]; exact lst_len (by omega), ?_⟩
          refine ⟨fun x o hx => ?_, ⟨fr2 ++ [e.2], ?_, ?_, fun b hb => List.mem_append_left _ (m2 b hb), fun e' he' hh => ?_⟩, _, _, _, rfl⟩
          · rw [upd_ne (ne_of_none hx hr0)]
            exact k2 _ _ hx
          · rw [upd_same, ← List.cons_append, List.map_append] <;> rfl
          · rw [List.length_append]
            simp; omega
          · rw [take_snoc he, List.mem_append, List.mem_singleton] at he'
            rcases he' with he' | rfl
            · rcases c2 e' he' hh with z | z
              · exact .inl z
              · exact .inr (List.mem_append_left _ z)
            · exact .inr (List.mem_append_right _ (List.mem_singleton.mpr rfl))
        · have d2'' : ¬ e.2 = a → e.2 ∈ fr2 := by simpa using d2
          have d2' : e.2 = a ∨ e.2 ∈ fr2 := (Classical.em (e.2 = a)).imp_right d2''
          exact ⟨k2, ⟨fr2, e2, by omega, m2, keep fun z => z.2 d2'⟩, _, _, _, rfl⟩
      · have d1' : ¬ (e.1 = a ∨ e.1 ∈ fr2) := by simpa using d1
        exact iteF ⟨k2, ⟨fr2, e2, by omega, m2, keep fun z => d1' z.1⟩, _, _, _, rfl⟩
    · obtain ⟨k2, ⟨fr2, e2, l2, m2, c2⟩, x1, y1, z1, rfl⟩ := h
      rw [wll] at l2 c2
      rw [List.take_length] at c2
      refine ⟨k2, ⟨fr2, e2, by rw [Nat.add_mul]; omega, fun b hb hk => ?_⟩, _, _, _, rfl⟩
      obtain ⟨x, hx, hxa⟩ := hb.last
      have up := hrk.up _ hx
      have up' : rk x < rk b := up
      have hb1 := (hrk.reach hb).1
      have z := c2 _ hx (by
        rcases hxa with z | z
        · exact .inl z
        · exact .inr (c1 _ z (by show rk x ≤ rk a + t; omega)))
      rcases z with z | z
      · have z' : b = a := z
        subst z'
        omega
      · exact z
  · obtain ⟨k1, ⟨fr, e1, l1, c1⟩, x0, y0, z0, rfl⟩ := h
    refine ⟨_, rfl, _, rfl, r0, _, rfl, SqL.of e1, fun p1 hp1 => ?_⟩
    have ec : cutV ((a :: fr).map nv) (some 1) none = (fr.map fun j : Nat => (j : Int)).map V.int := by rw [cut1, ← nv_map]; rfl
    refine ⟨p1, fr.map (fun j : Nat => (j : Int)), rfl, SqL.of (by rw [upd_same, ec]), fun ns p2 pn sn hp2 => ?_⟩
    obtain ⟨S, pS, eS⟩ := perm_map_inv pn
    refine ⟨p2, _, rfl, .inl ⟨SqL.of upd_same, fun p3 hp3 => ?_⟩⟩
    refine q p3 _ S (k1.trans ((same_new hp1).trans ((same_new hp2).trans (same_new hp3)))) ?_ fun b hb => ?_
    · rw [upd_same, eS, ← nv_map]
    · refine pS.mem_iff.mpr (c1 b hb ?_)
      have := (hrk.reach hb).2
      have := hrk.rl b this
      omega
end
end NW
/-! k67 by hand, 7: the checker of prices, second half -/
namespace NW
open PySem PySem.Spec PyProof.Rows L2
/-- an entry that the checker lets by -/
structure EntFine (n : Nat) (wl : List (Nat × Nat)) (e : Ent) : Prop where
  an : e.a < n
  s : e.S.Pairwise (· < ·)
  s8 : e.S.length ≤ 8
  sn : ∀ b ∈ e.S, b < n ∧ Reach wl e.a b
  t0 : 0 ≤ e.t
  b0 : 0 < e.b
  g : Int.gcd e.t e.b = 1
  tb : e.t < 2 ^ 60
  bb : e.b < 2 ^ 60
section
variable {P : Program} {w : World} {K : PySem.W.Frag} {mg : Str → Option Value} {base : Heap}
abbrev s_fault : Stmt := top 30
theorem sc_fault : FnScope ["many", "wishes", "entry", "a", "some", "price", "after", "b"] ["many", "wishes", "entry"] (defScope s_fault) := ⟨rfl, rfl, rfl, by decide +kernel, rfl, by decide +kernel, by decide +kernel⟩
def sp_fault : Sp := fun vs H Q _ => ∃ (n : Nat) (wa : Addr) (wl : List (Nat × Nat)) (rk : Nat → Nat) (v : V) (e : Ent), vs = [nv n, .ref wa, v] ∧ Wsh H wa wl ∧ Ranked wl rk n ∧ n ≤ 8 ∧ wl.length ≤ 8 ∧ EntV H v e ∧ EntFine n wl e ∧ ∀ H', Same H H' → Q .non H'
theorem r_fault (D : Df K mg "fault" s_fault) (T : Bi mg) (R_is_number_of_work : Rdy P w K mg base "is_number_of_work" 1 ["many", "thing"] sp_is_number_of_work) (R_is_some : Rdy P w K mg base "is_some" 2 ["many", "thing"] sp_is_some)
    (R_behind : Rdy P w K mg base "behind" 1 ["many", "wishes", "a"] sp_behind) (R_is_fraction : Rdy P w K mg base "is_fraction" 2 ["thing"] sp_is_fraction) : Rdy P w K mg base "fault" 3 ["many", "wishes", "entry"] sp_fault := by
  refine rdy D sc_fault (fun _ _ _ _ _ _ us hl => match us, hl with | [_, _, _], _ => rfl) (fun vs H Q E h => ?_) (fun f cdv A outer s H vs Q E hr h => ?_)
  · obtain ⟨n, wa, wl, rk, v, e, rfl, _⟩ := h
    rfl
  obtain ⟨n, wa, wl, rk, v, e, rfl, hwl, hrk, n8, w8, ⟨eb, es, eq, rfl, h1, h2, h3⟩, fine, q⟩ := h
  refine ⟨_, (pss_cons (ps_asg (pv 2) (pg_tup rfl (pgs_cons (pg_name (i := 3) sc_fault.nd rfl (Or.inl rfl)) (pgs_cons (pg_name (i := 4) sc_fault.nd rfl (Or.inl rfl)) (pgs_cons (pg_name (i := 5) sc_fault.nd rfl (Or.inl rfl)) pgs_nil)))))
    (pss_cons (ps_if (pt_not (pt_val (pe_cl R_is_number_of_work (hr.mono (by decide)) (pa_cons (pv 0) (pa_cons (pv 3) pa_nil))))) (pss_one (ps_ret pe_str)) pss_nil)
    (pss_cons (ps_if (pt_not (pt_val (pe_cl R_is_some hr (pa_cons (pv 0) (pa_cons (pv 4) pa_nil))))) (pss_one (ps_ret pe_str)) pss_nil)
    (pss_cons (ps_set (i := 6) sc_fault.nd rfl (Or.inr rfl) (pe_cl R_behind (hr.mono (by decide)) (pa_cons (pv 0) (pa_cons (pv 1) (pa_cons (pv 3) pa_nil)))))
    (pss_cons (ps_if (pt_not (pt_val (pe_callB (cr_all rfl) rfl T.b_all (by decide +kernel) (pa_cons (pe_lc (own := [("b", 7)]) rfl sc_fault.nd (pi_tup (pv 4)) (blkOk_by (N := ["many", "wishes", "entry", "a", "some", "price", "after", "b"]) (sc := defScope s_fault) (by decide +kernel)) (fun _ _ _ _ _ => (pg_name (i := 7) sc_fault.nd rfl (Or.inl rfl) (Or.inr rfl))) (fun _ _ _ _ _ => pts_nil) (fun _ _ _ _ _ => (pe_cmpR (op_in_seqK K) (pv 7) (pv 6) (by rfl)))) pa_nil)))) (pss_one (ps_ret pe_str)) pss_nil)
    (pss_cons (ps_if (PW.pt (pw_or (pt_not (pt_val (pe_cl R_is_fraction hr (pa_cons (pv 5) pa_nil)))) (pw_or1 (pt_cmpR op_lt (pe_ix ix_tup (pv 5) pe_int (fun _ _ => rfl)) pe_int (nomark _))))) (pss_one (ps_ret pe_str)) pss_nil)
    (pss_one (ps_ret pe_non)))))))), ?_⟩
  refine ⟨_, rfl, _, _, rfl, SqT.of h1, rfl, _, _, rfl, _, _, rfl, _, _, rfl, rfl, ?_⟩
  refine ⟨_, rfl, _, rfl, n, e.a, rfl, fine.an, _, rfl, iteF ?_⟩
  refine ⟨_, rfl, _, rfl, n, _, e.S, rfl, ⟨es, rfl, h2⟩, fun j hj => (fine.sn j hj).1, fine.s, fine.s8, fun H1 k1 => ⟨_, rfl, iteF ?_⟩⟩
  refine ⟨_, rfl, _, rfl, _, rfl, n, e.a, wa, wl, rk, rfl, hwl.kt (KT.same k1), hrk, n8, w8, fun r H2 xs k2 hr2 hx => ?_⟩
  have k12 := k1.trans k2
  refine ⟨_, rfl, es, rfl, ⟨_, SqT.of (k12 _ _ h2)⟩, fun D hD => ?_⟩
  have s8 := fine.s8
  refine lc_fm walk_tup (fun _ => some (.bl true)) hD (by rw [List.length_map]; omega) (fun H' k => SqT.of (k _ _ (k12 _ _ h2))) yAt_same (fun i x H0 H' R N hi k y r1 _ => ?_) (fun H3 k3 hl3 => ?_)
  · obtain ⟨j, hj, rfl⟩ := nv_at y.2
    refine ⟨rfl, yes (iteT ⟨_, rfl, _, rfl, r, _, rfl, .inr (SqT.of (k _ _ hr2)), rfl, flat_nv _, ?_⟩)⟩
    rw [if_neg Bool.false_ne_true, inV_nv, decide_eq_true (hx j (fine.sn j (List.mem_of_getElem? hj)).2)]
    exact r1 _ _ rfl (Same.refl _)
  refine ⟨D, List.replicate (e.S.map nv).length true, rfl, SqL.of (by rw [hl3, fm_rep]), _, rfl, ?_⟩
  rw [all_rep]
  refine iteF ?_
  have h33 := k3 _ _ (k12 _ _ h3)
  refine ⟨_, rfl, _, e.t, e.b, rfl, ⟨eq, rfl, h33⟩, fine.b0, fine.g, _, rfl, iteF ?_⟩
  refine ⟨_, rfl, _, _, _, _, rfl, rfl, SqT.of h33, atI_nat rfl, _, _, rfl, rfl, _, rfl, ?_⟩
  have t0 := fine.t0
  rw [decide_eq_false (show ¬ e.t < 0 by omega)]
  exact iteF (q _ (k12.trans k3))

abbrev s_ask_prices : Stmt := top 31
theorem sc_ask_prices : FnScope ["many", "wishes", "thing", "k", "entry", "word", "one"] ["many", "wishes", "thing"] (defScope s_ask_prices) := ⟨rfl, rfl, rfl, by decide +kernel, rfl, by decide +kernel, by decide +kernel⟩
def sp_ask_prices : Sp := fun vs H Q _ => ∃ (n : Nat) (wa th : Addr) (wl : List (Nat × Nat)) (rk : Nat → Nat) (us : List V) (es : List Ent), vs = [nv n, .ref wa, .ref th] ∧ Wsh H wa wl ∧ Ranked wl rk n ∧ n ≤ 8 ∧ wl.length ≤ 8 ∧ H th = some (.tup us) ∧ All2 (EntV H) us es ∧ (∀ e ∈ es, EntFine n wl e) ∧ es.length ≤ 30 ∧ ∀ H', Same H H' → Q .non H'
theorem r_ask_prices (D : Df K mg "ask_prices" s_ask_prices) (T : Bi mg) (R_fault : Rdy P w K mg base "fault" 3 ["many", "wishes", "entry"] sp_fault) : Rdy P w K mg base "ask_prices" 4 ["many", "wishes", "thing"] sp_ask_prices := by
  refine rdy D sc_ask_prices (fun _ _ _ _ _ _ us hl => match us, hl with | [_, _, _], _ => rfl) (fun vs H Q E h => ?_) (fun f cdv A outer s H vs Q E hr h => ?_)
  · obtain ⟨n, wa, th, wl, rk, us, es, rfl, _⟩ := h
    rfl
  obtain ⟨n, wa, th, wl, rk, us, es, rfl, hwl, hrk, n8, w8, hth, hes, fine, e30, q⟩ := h
  refine ⟨_, (pss_cons (ps_if (PW.pt (pw_or (pt_not (pt_val (pe_callB call_isi rfl T.b_isinstance (by decide +kernel) (pa_cons (pv 2) (pa_cons (pe_bltn (v := .ty "tuple") rfl T.b_tuple (by decide +kernel) rfl) pa_nil))))) (pw_or1 (pt_not (pt_val (pe_callB (cr_all rfl) rfl T.b_all (by decide +kernel) (pa_cons (pe_lc (own := [("one", 6)]) rfl sc_ask_prices.nd (pi_tup (pv 2)) (blkOk_by (N := ["many", "wishes", "thing", "k", "entry", "word", "one"]) (sc := defScope s_ask_prices) (by decide +kernel)) (fun _ _ _ _ _ => (pg_name (i := 6) sc_ask_prices.nd rfl (Or.inl rfl) (Or.inr rfl))) (fun _ _ _ _ _ => pts_nil) (fun _ _ _ _ _ => (pe_and (pe_callB (call_isiK' K) rfl T.b_isinstance (by decide +kernel) (pa_cons (pv 6) (pa_cons (pe_bltn (v := .ty "tuple") rfl T.b_tuple (by decide +kernel) rfl) pa_nil))) (pe_one (pe_cmpR op_eq (pe_callB (call_len_seqK K) rfl T.b_len PySem.boot_len (pa_cons (pv 6) pa_nil)) pe_int (nomark _)))))) pa_nil))))))) (pss_one ps_never) pss_nil)
    (pss_one (ps_for PassesOwn.never rfl (pi_enumT rfl T.b_enumerate (pa_cons (pv 2) pa_nil)) (pg_tup rfl (pgs_cons (pg_name (i := 3) sc_ask_prices.nd rfl (Or.inl rfl)) (pgs_cons (pg_name (i := 4) sc_ask_prices.nd rfl (Or.inl rfl)) pgs_nil)))
      (pss_cons (ps_set (i := 5) sc_ask_prices.nd rfl (Or.inl rfl) (pe_cl R_fault hr (pa_cons (pv 0) (pa_cons (pv 1) (pa_cons (pv 4) pa_nil)))))
      (pss_one (ps_if (pt_cmpR op_notN (pv 5) pe_non (nomark _)) (pss_one ps_never) pss_nil)))))), ?_⟩
  have ul : us.length = es.length := hes.length
  refine ⟨_, rfl, _, _, _, _, true, rfl, .ty _, .base (.tup hth), kit_ty (by decide +kernel), _, rfl, iteF ?_⟩
  refine ⟨_, rfl, th, rfl, ⟨_, SqT.of hth⟩, fun D hD => ?_⟩
  refine lc_fm walk_tup (fun _ => some (.bl true)) hD (by omega) (fun H' k => SqT.of (k _ _ hth)) yAt_same (fun i x H0 H' R N hi k y r1 _ => ?_) (fun H1 k1 hl1 => ?_)
  · obtain ⟨e, he, b, s1, q1, rfl, h1, h2, h3⟩ := hes.get' y.2
    have h1' := k _ _ h1
    refine ⟨rfl, yes (iteT ⟨_, rfl, _, _, _, _, true, rfl, .ty _, .base (.tup h1'), kit_ty (by decide +kernel), _, rfl, iteT ?_⟩)⟩
    refine ⟨_, rfl, b, _, rfl, .inr (SqT.of h1'), rfl, ?_⟩
    exact r1 _ _ rfl (Same.refl _)
  refine ⟨D, List.replicate us.length true, rfl, SqL.of (by rw [hl1, fm_rep]), _, rfl, ?_⟩
  rw [all_rep]
  refine iteF ?_
  refine ⟨_, rfl, th, us, rfl, SqT.of (k1 _ _ hth), ?_⟩
  refine for_it walk_enumT (fun i σ H' => Same H H' ∧ ∃ x y z u, σ = [some (nv n), some (.ref wa), some (.ref th), x, y, z, u]) ⟨k1, _, _, _, _, rfl⟩ (fun i σ H' _ h => SqT.of (h.1 _ _ hth)) (fun i x σ H0 H2 hi h y => ?_) (fun σ H' h => ?_)
  · obtain ⟨k0, x0, y0, z0, u0, rfl⟩ := h
    have k := k0.trans (yPair_same _ _ _ _ y)
    obtain ⟨t, x1, v, rfl, ht, rfl, e1, e2⟩ := y
    cases e1
    obtain ⟨e, he, ev⟩ := hes.get' e2
    have fe := fine e (List.mem_of_getElem? he)
    refine ⟨_, _, rfl, SqT.of upd_same, rfl, _, _, rfl, _, _, rfl, rfl, ?_⟩
    refine ⟨_, rfl, _, rfl, _, rfl, n, wa, wl, rk, v, e, rfl, hwl.kt (KT.same k), hrk, n8, w8, ev.kt (KT.same k), fe, fun H3 k3 => ?_⟩
    refine ⟨_, rfl, rfl, _, rfl, iteF ⟨k.trans k3, _, _, _, _, rfl⟩⟩
  · obtain ⟨k0, x0, y0, z0, u0, rfl⟩ := h
    exact q _ k0
end
end NW
/-! k67 by hand, 8: priced -/
namespace NW
open PySem PySem.Spec PyProof.Rows L2
theorem con_perm {p : Nat → Int} {a : Nat} {S S' : List Nat} {q : Int} {j : Nat} (h : S.Perm S') : con p a S q j = con p a S' q j := by
  unfold con; rw [sm_perm h, h.count_eq]
theorem con_snoc {p : Nat → Int} {a b : Nat} {S : List Nat} {q : Int} {j : Nat} : con p a (S ++ [b]) q j = con p a S q j + (if j = a then q * p b else 0) - (if j = b then q * p b else 0) := by
  rw [con_perm (List.perm_append_comm (l₁ := S) (l₂ := [b]))]
  exact con_cons
theorem tur_snoc {p : Nat → Int} {q : Ent → Int} {es : List Ent} {e : Ent} {j : Nat} : tur p q (es ++ [e]) j = tur p q es j + con p e.a e.S (q e) j := sm_snoc e es
theorem gain_bound {p : Nat → Int} (hp : ∀ j, 0 ≤ p j) : ∀ S : List Nat, 0 ≤ gain p S ∧ gain p S ≤ sm p S * sm p S ∧ 0 ≤ sm p S
  | [] => by simp [gain, sm, pairs]
  | x :: r => by
    obtain ⟨h1, h2, h3⟩ := gain_bound hp r
    have hx := hp x
    rw [gain_cons]
    simp only [sm]
    have a1 : 0 ≤ p x * p x := Int.mul_nonneg hx hx
    have a2 : 0 ≤ p x * sm p r := Int.mul_nonneg hx h3
    refine ⟨by omega, ?_, by omega⟩
    have : (p x + sm p r) * (p x + sm p r) = p x * p x + 2 * (p x * sm p r) + sm p r * sm p r := by grind
    omega
theorem set_map_range {n a : Nat} {f : Nat → V} {v : V} : ((List.range n).map f).set a v = (List.range n).map fun j => if j = a then v else f j := by
  apply List.ext_getElem
  · simp
  · intro i h1 h2
    rw [List.getElem_set]
    simp only [List.getElem_map, List.getElem_range]
    by_cases h : a = i
    · subst h; simp
    · have : ¬ i = a := fun z => h z.symm
      simp [h, this]
theorem set_turn {n a : Nat} {T : Nat → Int} {d : Int} {v : V} (h : v = V.int (T a + d)) : ((List.range n).map fun j => V.int (T j)).set a v = (List.range n).map fun j => V.int (T j + if j = a then d else 0) := by
  rw [set_map_range, h]
  congr 1
  funext j
  by_cases hj : j = a
  · subst hj; simp
  · simp [hj]
theorem ixN_nat {n j : Nat} (h : j < n) : ixN n (j : Int) = some j := by
  unfold ixN
  rw [if_pos (by omega), if_pos (by omega)]; simp
theorem map_range_congr {n : Nat} {f g : Nat → Int} (h : ∀ j, f j = g j) : (List.range n).map (fun j => V.int (f j)) = (List.range n).map (fun j => V.int (g j)) := by
  congr 1; funext j; rw [h]
theorem lcm_dvd {sh b : Int} (hb : 0 < b) : b ∣ sh * (b / (Int.gcd sh b : Nat)) ∧ sh ∣ sh * (b / (Int.gcd sh b : Nat)) := by
  refine ⟨?_, Int.dvd_mul_right ..⟩
  obtain ⟨k, hk⟩ := Int.gcd_dvd_left (a := sh) (b := b)
  have h2 : b / (Int.gcd sh b : Nat) * (Int.gcd sh b : Nat) = b := Int.ediv_mul_cancel (Int.gcd_dvd_right ..)
  refine ⟨k, ?_⟩
  have : sh * (b / (Int.gcd sh b : Nat)) = (b / (Int.gcd sh b : Nat) * (Int.gcd sh b : Nat)) * k := by
    rw [Int.mul_assoc, ← hk, Int.mul_comm]
  rw [this, h2]
theorem Works.hp0 {H : Hp} {a : Addr} {c : Int} {n : Nat} {p w : Nat → Int} (h : Works H a c n p w) : ∀ j, 0 ≤ p j := fun j => by have := h.pp j; omega
section
variable {P : Program} {w : World} {K : PySem.W.Frag} {mg : Str → Option Value} {base : Heap}
abbrev s_priced : Stmt := top 32
theorem sc_priced : FnScope ["works", "wishes", "thing", "shared", "a", "some", "price", "turned", "shown", "paid", "b", "weight"] ["works", "wishes", "thing"] (defScope s_priced) := ⟨rfl, rfl, rfl, by decide +kernel, rfl, by decide +kernel, by decide +kernel⟩
def sp_priced : Sp := fun vs H Q _ => ∃ (a wa th : Addr) (c : Int) (n : Nat) (p w : Nat → Int) (wl : List (Nat × Nat)) (rk : Nat → Nat) (us : List V) (es : List Ent), vs = [.ref a, .ref wa, .ref th] ∧ Works H a c n p w ∧ Wsh H wa wl ∧ Ranked wl rk n ∧ wl.length ≤ 8 ∧ H th = some (.tup us) ∧ All2 (EntV H) us es ∧ (∀ e ∈ es, EntFine n wl e) ∧ es.length ≤ 30 ∧
  ∀ (r : Addr) (H' : Hp) (sh : Int), Same H H' → 0 < sh → (∀ e ∈ es, e.b ∣ sh) →
    H' r = some (.tup [.int (shown p w c n sh (fun e => e.t * (sh / e.b)) es / (Int.gcd (shown p w c n sh (fun e => e.t * (sh / e.b)) es) sh : Nat)), .int (sh / (Int.gcd (shown p w c n sh (fun e => e.t * (sh / e.b)) es) sh : Nat))]) → Q (.ref r) H'
theorem r_priced (D : Df K mg "priced" s_priced) (T : Bi mg) (R_ask_ends : Rdy P w K mg base "ask_ends" 2 ["works"] sp_ask_ends) (R_ask_prices : Rdy P w K mg base "ask_prices" 4 ["many", "wishes", "thing"] sp_ask_prices) (R_fraction : Rdy P w K mg base "fraction" 2 ["top", "bottom"] sp_fraction)
    (R_weights_of : Rdy P w K mg base "weights_of" 1 ["works"] sp_weights_of) (R_gain : Rdy P w K mg base "gain" 1 ["works", "some"] sp_gain) (R_least_sum : Rdy P w K mg base "least_sum" 1 ["works", "weights"] sp_least_sum) : Rdy P w K mg base "priced" 5 ["works", "wishes", "thing"] sp_priced := by
  refine rdy D sc_priced (fun _ _ _ _ _ _ us hl => match us, hl with | [_, _, _], _ => rfl) (fun vs H Q E h => ?_) (fun f cdv A outer s H vs Q E hr h => ?_)
  · obtain ⟨a, wa, th, c, n, p, w, wl, rk, us, es, rfl, _⟩ := h
    rfl
  obtain ⟨a, wa, th, c, n, p, w, wl, rk, us, es, rfl, hW, hwl, hrk, w8, hth, hes, fine, e30, q⟩ := h
  refine ⟨_, (pss_cons (ps_expr (pe_cl R_ask_ends (hr.mono (by decide)) (pa_cons (pv 0) pa_nil)))
    (pss_cons (ps_expr (pe_cl R_ask_prices (hr.mono (by decide)) (pa_cons (pe_callB call_len_seq rfl T.b_len PySem.boot_len (pa_cons (pv 0) pa_nil)) (pa_cons (pv 1) (pa_cons (pv 2) pa_nil)))))
    (pss_cons (ps_set (i := 3) sc_priced.nd rfl (Or.inr rfl) pe_int)
    (pss_cons (ps_for PassesOwn.never rfl (pi_tup (pv 2)) (pg_tup rfl (pgs_cons (pg_name (i := 4) sc_priced.nd rfl (Or.inl rfl)) (pgs_cons (pg_name (i := 5) sc_priced.nd rfl (Or.inl rfl)) (pgs_cons (pg_name (i := 6) sc_priced.nd rfl (Or.inl rfl)) pgs_nil))))
      (pss_one (ps_set (i := 3) sc_priced.nd rfl (Or.inr rfl) (pe_op op_mulW (pv 3) (pe_ix ix_tup (pe_cl R_fraction (hr.mono (by decide)) (pa_cons (pv 3) (pa_cons (pe_ix ix_tup (pv 6) pe_int (fun _ _ => rfl)) pa_nil))) pe_int (fun _ _ => rfl))))))
    (pss_cons (ps_setLc (i := 7) rfl sc_priced.nd rfl rfl (sw_true rfl rfl rfl (by decide +kernel)) (own := [("weight", 11)]) (pi_list (pe_cl R_weights_of (hr.mono (by decide)) (pa_cons (pv 0) pa_nil))) (blkOk_by (N := ["works", "wishes", "thing", "shared", "a", "some", "price", "turned", "shown", "paid", "b", "weight"]) (sc := defScope s_priced) (by decide +kernel)) (fun _ _ _ _ _ => (pg_name (i := 11) sc_priced.nd rfl (Or.inl rfl) (Or.inr rfl))) (fun _ _ _ _ _ => pts_nil) (fun _ _ _ _ _ => (pe_op op_mul (pv 11) (pv 3))))
    (pss_cons (ps_set (i := 8) sc_priced.nd rfl (Or.inl rfl) pe_int)
    (pss_cons (ps_for PassesOwn.never rfl (pi_tup (pv 2)) (pg_tup rfl (pgs_cons (pg_name (i := 4) sc_priced.nd rfl (Or.inl rfl)) (pgs_cons (pg_name (i := 5) sc_priced.nd rfl (Or.inl rfl)) (pgs_cons (pg_name (i := 6) sc_priced.nd rfl (Or.inl rfl)) pgs_nil))))
      (pss_cons (ps_set (i := 9) sc_priced.nd rfl (Or.inl rfl) (pe_op op_mul (pe_ix ix_tup (pv 6) pe_int (fun _ _ => rfl)) (pe_op op_fdivW (pv 3) (pe_ix ix_tup (pv 6) pe_int (fun _ _ => rfl)))))
      (pss_cons (ps_set (i := 8) sc_priced.nd rfl (Or.inl rfl) (pe_op op_add (pv 8) (pe_op op_mul (pv 9) (pe_cl R_gain (hr.mono (by decide)) (pa_cons (pv 0) (pa_cons (pv 5) pa_nil))))))
      (pss_one (ps_for PassesOwn.never rfl (pi_tup (pv 5)) (pg_name (i := 10) sc_priced.nd rfl (Or.inl rfl))
        (pss_cons (ps_asg (pe_op op_add (pe_ix ix_list (pv 7) (pv 4) (fun _ _ => rfl)) (pe_op op_mul (pv 9) (pe_ix ix_tup (pe_ix ix_tup (pv 0) (pv 10) (fun _ _ => rfl)) pe_int (fun _ _ => rfl)))) (pg_sub (pv 7) (pv 4) set_list))
        (pss_one (ps_asg (pe_op op_sub (pe_ix ix_list (pv 7) (pv 10) (fun _ _ => rfl)) (pe_op op_mul (pv 9) (pe_ix ix_tup (pe_ix ix_tup (pv 0) (pv 10) (fun _ _ => rfl)) pe_int (fun _ _ => rfl)))) (pg_sub (pv 7) (pv 10) set_list)))))))))
    (pss_one (ps_ret (pe_cl R_fraction (hr.mono (by decide)) (pa_cons (pe_op op_add (pv 8) (pe_cl R_least_sum (hr.mono (by decide)) (pa_cons (pv 0) (pa_cons (pv 7) pa_nil)))) (pa_cons (pv 3) pa_nil)))))))))))), ?_⟩
  have n8 := hW.n8
  refine ⟨_, rfl, a, c, n, p, w, rfl, hW, fun H1 k1 => ?_⟩
  obtain ⟨vs, hv1, hv2, _⟩ := (hW.kt (KT.same k1)).all
  refine ⟨_, rfl, a, vs, rfl, .inr (SqT.of hv1), _, rfl, _, rfl, n, wa, th, wl, rk, us, es, by rw [hv2] <;> rfl, hwl.kt (KT.same k1), hrk, n8, w8, k1 _ _ hth, hes.imp fun _ _ => EntV.kt (KT.same k1), fine, e30, fun H2 k2 => ?_⟩
  have k12 := k1.trans k2
  clear hv1 hv2 k1 k2
  -- shared
  refine ⟨_, rfl, th, rfl, ⟨_, SqT.of (k12 _ _ hth)⟩, ?_⟩
  have ul : us.length = es.length := hes.length
  refine for_tup (fun i σ H' => Same H H' ∧ ∃ sh : Int, 0 < sh ∧ sh < 2 ^ (60 * i + 1) ∧ (∀ e ∈ es.take i, e.b ∣ sh) ∧ ∃ x y z, σ = [some (.ref a), some (.ref wa), some (.ref th), some (.int sh), x, y, z, none, none, none, none, none])
    ⟨k12, 1, by decide, by decide, fun e he => by simp at he, none, none, none, rfl⟩ (fun i σ H' _ h => SqT.of (h.1 _ _ hth)) (fun i x σ H3 hx h => ?_) (fun σ H3 h => ?_)
  · obtain ⟨k3, sh, sh0, shb, shd, x0, y0, z0, rfl⟩ := h
    obtain ⟨e, he, b1, s1, q1, rfl, h1, h2, h3⟩ := hes.get' hx
    have fe := fine e (List.mem_of_getElem? he)
    have il : i < es.length := (List.getElem?_eq_some_iff.mp he).1
    refine ⟨_, _, rfl, SqT.of (k3 _ _ h1), rfl, _, _, rfl, _, _, rfl, _, _, rfl, rfl, ?_⟩
    refine ⟨_, rfl, _, rfl, _, rfl, _, _, _, _, rfl, rfl, SqT.of (k3 _ _ h3), atI_nat rfl, sh, e.b, rfl, fe.b0, Int.lt_of_lt_of_le fe.bb (pow2_le (by decide)), fun r hr' => ?_⟩
    have fp := frac_pos (t := sh) fe.b0
    have fl := (frac_le (t := sh) fe.b0).2
    have fb : e.b / (Int.gcd sh e.b : Nat) < 2 ^ 60 := Int.lt_of_le_of_lt fl fe.bb
    refine ⟨_, _, _, _, rfl, rfl, SqT.of upd_same, atI_nat rfl, _, _, rfl, rfl, wide_mul (bits_of sh0 shb) (bits_of fp fb) (by omega) (by decide) (by omega), ?_⟩
    have ld := lcm_dvd (sh := sh) fe.b0
    refine ⟨k3.trans (same_new hr'), _, Int.mul_pos sh0 fp, ?_, fun e' he' => ?_, _, _, _, rfl⟩
    · have := wide_lt (bits_of sh0 shb) (bits_of fp fb)
      have pos := Int.mul_pos sh0 fp
      have ee : 60 * i + 1 + 60 = 60 * (i + 1) + 1 := by omega
      rw [ee] at this
      have z : (((sh * (e.b / (Int.gcd sh e.b : Nat))).natAbs : Nat) : Int) < ((2 ^ (60 * (i + 1) + 1) : Nat) : Int) := by exact_mod_cast this
      rw [Int.natCast_pow] at z
      have z2 : (((sh * (e.b / (Int.gcd sh e.b : Nat))).natAbs : Nat) : Int) = sh * (e.b / (Int.gcd sh e.b : Nat)) := by omega
      rw [z2] at z
      exact z
    · rw [take_snoc he, List.mem_append, List.mem_singleton] at he'
      rcases he' with he' | rfl
      · exact Int.dvd_trans (shd e' he') ld.2
      · exact ld.1
  obtain ⟨k3, sh, sh0, shb, shd, x0, y0, z0, rfl⟩ := h
  rw [ul] at shb shd
  rw [List.take_length] at shd
  have shb' : sh < 2 ^ 8000 := Int.lt_of_lt_of_le shb (pow2_le (by omega))
  -- turned
  refine ⟨_, rfl, a, c, n, p, w, rfl, hW.kt (KT.same k3), fun r4 H4 k4 _ hr4 => ?_⟩
  refine ⟨r4, rfl, ⟨_, SqL.of hr4⟩, fun D hD => ?_⟩
  have k34 := k3.trans k4
  have hD0 : H D = none := k34.free hD
  refine lc_fm walk_list (fun j => some (.int (sh * w j))) hD (by simp; omega) (fun H' k => SqL.of (k _ _ hr4)) yAt_same (fun i x H0 H' R N hi k y r1 _ => ?_) (fun H5 k5 hl5 => ?_)
  · have hi' : i < n := by simpa using hi
    have y2 := y.2
    rw [List.getElem?_map, List.getElem?_range hi'] at y2
    have ex := (Option.some.inj y2).symm
    subst ex
    refine ⟨rfl, yes (iteT ⟨_, rfl, _, rfl, _, _, rfl, rfl, .inl (hW.w64 i), ?_⟩)⟩
    have e : R (.int (w i * sh)) H' := by
      rw [Int.mul_comm]
      exact r1 _ _ rfl (Same.refl _)
    exact e
  rw [range_map_fm, List.length_map, List.length_range] at hl5
  have k35 := k34.trans k5
  refine ⟨_, rfl, th, rfl, ⟨_, SqT.of (k35 _ _ hth)⟩, ?_⟩
  refine for_tup (fun i σ H' => Same H H' ∧ H' D = some (.lst ((List.range n).map fun j => V.int (sh * w j + tur p (fun e => e.t * (sh / e.b)) (es.take i) j))) ∧
      ∃ x y z u v, σ = [some (.ref a), some (.ref wa), some (.ref th), some (.int sh), x, y, z, some (.ref D), some (.int (sm (fun e => e.t * (sh / e.b) * gain p e.S) (es.take i))), u, v, none])
    ⟨k35, by rw [hl5]; exact congrArg (fun l => some (HO.lst l)) (map_range_congr fun j => by simp [tur, sm]), _, _, _, _, _, rfl⟩ (fun i σ H' _ h => SqT.of (h.1 _ _ hth)) (fun i x σ H6 hx h => ?_) (fun σ H6 h => ?_)
  · obtain ⟨k6, hl6, x1, y1, z1, u1, v1, rfl⟩ := h
    obtain ⟨e, he, b1, s1, q1, rfl, h1, h2, h3⟩ := hes.get' hx
    have fe := fine e (List.mem_of_getElem? he)
    refine ⟨_, _, rfl, SqT.of (k6 _ _ h1), rfl, _, _, rfl, _, _, rfl, _, _, rfl, rfl, ?_⟩
    have W6 := hW.kt (KT.same k6)
    have t60 := fe.tb
    have t0 := fe.t0
    -- paid
    refine ⟨_, rfl, _, _, _, _, rfl, rfl, SqT.of (k6 _ _ h3), atI_nat rfl, _, rfl, _, rfl, _, _, _, _, rfl, rfl, SqT.of (k6 _ _ h3), atI_nat rfl, _, _, rfl, rfl, wide_div fe.b0 (bits_of fe.b0 fe.bb) (by decide) (by decide), _, _, rfl, rfl, .inl ⟨by omega, by omega⟩, ?_⟩
    -- shown
    have gb := gain_bound hW.hp0 e.S
    have sb := sm_bound hW.pp e.S
    have s8 := fe.s8
    have g64 : gain p e.S < 2 ^ 64 := by
      have h1 : sm p e.S ≤ 8000000 := by omega
      have h2 : sm p e.S * sm p e.S ≤ 8000000 * 8000000 := Int.mul_le_mul h1 h1 gb.2.2 (by decide)
      omega
    refine ⟨_, rfl, _, rfl, _, rfl, _, rfl, a, s1, c, n, p, w, e.S, rfl, W6, k6 _ _ h2, fun j hj => (fe.sn j hj).1, _, _, rfl, rfl, .inr ⟨by omega, g64⟩, _, _, rfl, rfl, ?_⟩
    -- for b in some
    refine ⟨_, rfl, s1, rfl, ⟨_, SqT.of (k6 _ _ h2)⟩, ?_⟩
    refine for_tup (fun m σ H' => Same H H' ∧ H' D = some (.lst ((List.range n).map fun j => V.int (sh * w j + tur p (fun e => e.t * (sh / e.b)) (es.take i) j + con p e.a (e.S.take m) (e.t * (sh / e.b)) j))) ∧
        ∃ v, σ = [some (.ref a), some (.ref wa), some (.ref th), some (.int sh), some (nv e.a), some (.ref s1), some (.ref q1), some (.ref D), some (.int (sm (fun e => e.t * (sh / e.b) * gain p e.S) (es.take i) + e.t * (sh / e.b) * gain p e.S)), some (.int (e.t * (sh / e.b))), v, none])
      ⟨k6, by rw [hl6]; exact congrArg (fun l => some (HO.lst l)) (map_range_congr fun j => by simp [con, sm]), _, rfl⟩ (fun m σ H' _ h => SqT.of (h.1 _ _ h2)) (fun m x σ H7 hx7 h => ?_) (fun σ H7 h => ?_)
    · obtain ⟨k7, hl7, v7, rfl⟩ := h
      obtain ⟨b, hb, rfl⟩ := nv_at hx7
      have hbn := (fe.sn b (List.mem_of_getElem? hb)).1
      obtain ⟨ws, b2, q2, f1, f2, f3, f4⟩ := (hW.kt (KT.same k7)).at hbn
      obtain ⟨T0, hT0⟩ : ∃ T0 : Nat → Int, T0 = fun j => sh * w j + tur p (fun e => e.t * (sh / e.b)) (es.take i) j + con p e.a (e.S.take m) (e.t * (sh / e.b)) j := ⟨_, rfl⟩
      have hl0 : H7 D = some (.lst ((List.range n).map fun j => V.int (T0 j))) := by rw [hT0]; exact hl7
      have keepW : ∀ l b o, b ≠ D → H7 b = some o → (upd H7 D (.lst l)) b = some o := fun l b o hb hx => by rw [upd_ne hb]; exact hx
      have tD : ∀ (b : Addr) (xs : List V), H7 b = some (.tup xs) → b ≠ D := fun b xs hb => ne_of hb hl0 (by intro z; cases z)
      refine ⟨_, rfl, _, rfl, _, _, _, _, rfl, rfl, SqL.of hl0, range_at (f := fun j => V.int (T0 j)) fe.an, _, rfl, _, rfl, _, rfl, _, _, _, _, rfl, rfl, SqT.of f1, f2, _, _, _, _, rfl, rfl, SqT.of f3, atI_nat rfl, _, _, rfl, rfl, .inr (hW.p64 b), _, _, rfl, rfl, ?_⟩
      refine ⟨_, rfl, _, rfl, D, _, _, e.a, rfl, rfl, hl0, ?_, ?_⟩
      · rw [List.length_map, List.length_range]
        exact ixN_nat fe.an
      rw [set_turn (T := T0) (d := e.t * (sh / e.b) * p b) rfl]
      obtain ⟨T1, hT1⟩ : ∃ T1 : Nat → Int, T1 = fun j => T0 j + (if j = e.a then e.t * (sh / e.b) * p b else 0) := ⟨_, rfl⟩
      have eT : ((List.range n).map fun j => V.int (T0 j + (if j = e.a then e.t * (sh / e.b) * p b else 0))) = (List.range n).map fun j => V.int (T1 j) := by rw [hT1]
      rw [eT]
      refine ⟨_, rfl, _, rfl, _, _, _, _, rfl, rfl, SqL.of upd_same, range_at (f := fun j => V.int (T1 j)) hbn, ?_⟩
      refine ⟨_, rfl, _, rfl, _, rfl, _, _, _, _, rfl, rfl, SqT.of (keepW _ _ _ (tD _ _ f1) f1), f2, _, _, _, _, rfl, rfl, SqT.of (keepW _ _ _ (tD _ _ f3) f3), atI_nat rfl, _, _, rfl, rfl, .inr (hW.p64 b), _, _, rfl, rfl, ?_⟩
      refine ⟨_, rfl, _, rfl, D, _, _, b, rfl, rfl, upd_same, ?_, ?_⟩
      · rw [List.length_map, List.length_range]
        exact ixN_nat hbn
      rw [set_turn (T := T1) (d := - (e.t * (sh / e.b) * p b)) (show V.int (T1 b - e.t * (sh / e.b) * p b) = V.int (T1 b + - (e.t * (sh / e.b) * p b)) from congrArg V.int (by omega)), upd_upd]
      refine ⟨fun x o hx => ?_, ?_, _, rfl⟩
      · rw [upd_ne (ne_of_none hx hD0)]
        exact k7 _ _ hx
      · rw [upd_same]
        refine congrArg (fun l => some (HO.lst l)) (map_range_congr fun j => ?_)
        rw [take_snoc hb, con_snoc, hT1, hT0]
        by_cases hj : j = b
        · subst hj
          simp only [if_pos]
          omega
        · simp only [if_neg hj]
          omega
    · obtain ⟨k7, hl7, v7, rfl⟩ := h
      rw [List.length_map, List.take_length] at hl7
      rw [take_snoc he, sm_snoc]
      refine ⟨k7, ?_, _, _, _, _, _, rfl⟩
      rw [hl7]
      refine congrArg (fun l => some (HO.lst l)) (map_range_congr fun j => ?_)
      rw [tur_snoc]; omega
  · obtain ⟨k6, hl6, x1, y1, z1, u1, v1, rfl⟩ := h
    rw [ul, List.take_length] at hl6
    rw [ul, List.take_length]
    refine ⟨_, rfl, _, rfl, _, rfl, a, D, c, n, p, w, _, rfl, hW.kt (KT.same k6), hl6, fun H7 k7 => ?_⟩
    refine ⟨_, _, rfl, rfl, _, rfl, _, sh, rfl, sh0, shb', fun r hr' => ?_⟩
    exact q r _ sh (k6.trans (k7.trans (same_new hr'))) sh0 shd upd_same
end
end NW
/-! k67 by hand, 9: is it a forest -/
namespace NW
open PySem PySem.Spec PyProof.Rows L2
/-! ### len(set(..)) of numbers that may be alike -/
theorem fm_mem {val : Nat → Int} : ∀ (k : Nat) (v : Int), v ∈ firstMet val k ↔ ∃ i, i < k ∧ val i = v
  | 0, v => by simp [firstMet]
  | k + 1, v => by
    have ih := fm_mem (val := val) k
    rw [firstMet_succ]
    unfold step_dedup
    by_cases h : ((firstMet val k).any (· == val k)) = true
    · rw [if_pos h, ih v]
      obtain ⟨y, hy, ey⟩ := List.any_eq_true.mp h
      have ey2 : y = val k := eq_of_beq ey
      rw [ey2] at hy
      obtain ⟨i0, hi0, e0⟩ := (ih _).mp hy
      constructor
      · rintro ⟨i, hi, e⟩; exact ⟨i, by omega, e⟩
      · rintro ⟨i, hi, e⟩
        by_cases z : i = k
        · subst z; exact ⟨i0, hi0, e0.trans e⟩
        · exact ⟨i, by omega, e⟩
    · rw [if_neg h, List.mem_append, List.mem_singleton, ih v]
      constructor
      · rintro (⟨i, hi, e⟩ | e)
        · exact ⟨i, by omega, e⟩
        · exact ⟨k, by omega, e.symm⟩
      · rintro ⟨i, hi, e⟩
        by_cases z : i = k
        · subst z; exact .inr e.symm
        · exact .inl ⟨i, by omega, e⟩
theorem fm_dup {val : Nat → Int} {i j : Nat} (hij : i < j) (e : val i = val j) : ∀ k, j < k → (firstMet val k).length < k
  | 0, h => absurd h (Nat.not_lt_zero _)
  | k + 1, h => by
    by_cases z : j = k
    · subst z
      have m : val j ∈ firstMet val j := (fm_mem j _).mpr ⟨i, hij, e⟩
      have hy : ((firstMet val j).any (· == val j)) = true := List.any_eq_true.mpr ⟨_, m, by simp⟩
      rw [firstMet_succ]
      unfold step_dedup
      rw [if_pos hy]
      have := firstMet_length_le val j
      omega
    · have ih := fm_dup hij e k (by omega)
      rw [firstMet_succ]
      unfold step_dedup
      split
      · omega
      · rw [List.length_append]; simp; omega
theorem fm_nodup_iff {ns : List Int} : (firstMet (fun i => ns.getD i 0) ns.length).length = ns.length ↔ ns.Nodup := by
  constructor
  · intro h
    refine List.pairwise_iff_getElem.mpr fun i j hi hj hij e => ?_
    have := fm_dup (val := fun i => ns.getD i 0) hij (by
      show ns.getD i 0 = ns.getD j 0
      rw [List.getD_eq_getElem?_getD, List.getD_eq_getElem?_getD, List.getElem?_eq_getElem hi, List.getElem?_eq_getElem hj]
      exact e) ns.length hj
    omega
  · intro h
    rw [RZ.firstMet_nodup h ns.length (Nat.le_refl _), List.take_length]
def tLenSet (K : PySem.W.Frag) (ta : TE) : TE := fun σ H Q => ta σ H fun x H1 => ∃ (l : Addr) (ns : List Int), x = .ref l ∧ SqL K H1 l (ns.map V.int) ∧ ns.length ≤ 4000 ∧ Q (.int ((firstMet (fun i => ns.getD i 0) ns.length).length : Nat)) H1
theorem pe_lenSet {X : Cx} {a : Expr} {ta : TE} {p p2 q pos : Pos} (hg : Gl X "len") (hm : X.mg "len" = none) (hg2 : Gl X "set") (hm2 : X.mg "set" = none) (ha : PE X a ta) (hc : X.calm = true := by rfl)
    (na : starEach [a] X.env = (false, eval a X.env) :: starEach [] X.env := by rfl) : PE X (.Call (.Name "len" p) [.Call (.Name "set" p2) [a] [] q] [] pos) (tLenSet X.K ta) := by
  refine ⟨fun pins s σ H Q I h => ?_⟩
  refine Call_ (ld_blt I hg hm boot_len ?_)
  refine PyProof.Rows.callWith_builtin1 (PyProof.Rows.args_cons ?_ rfl) rfl rfl
  refine Call_ (ld_blt I hg2 hm2 boot_set ?_)
  refine PyProof.Rows.callWith_type1 (PyProof.Rows.args_cons (thn (ha.run pins s σ H _ I h) fun v s1 ⟨x, H1, I1, r1, q1⟩ => PyProof.Rows.args_nil ?_) na) na rfl
  obtain ⟨l, ns, rfl, hq, hl, q1⟩ := q1
  cases r1
  obtain ⟨its, r, pl, hz⟩ := I1.list hq
  have hlen : its.toArray.size = ns.length := by rw [List.size_toArray, ← r.length, List.length_map]
  refine call_set_list (I1.ok.hd hc) pl.isList (by simpa using RZ.intsAre_vals r) (by rw [hlen]; unfold scanBound; omega) fun h' tk hS hk => ?_
  refine PyProof.Rows.args_nil ?_
  rw [hlen] at hS
  obtain ⟨o, es, ep, t, ho, hex, hd, _, _, _, hf, hn⟩ := hS
  have I2 : Inv X pins σ H1 { s1 with heap := h', toks := tk } := I1.kept fun b o e => hk b o (Heap.lt_size e) e
  have fl := firstMet_length_le (fun i => ns.getD i 0) ns.length
  exact call_len_set ho hex hd hf (by rw [hn] <;> omega) ⟨.int ((firstMet (fun i => ns.getD i 0) ns.length).length : Nat), H1, I2.tok _, ⟨_, by rw [hn]⟩, q1⟩
section
variable {P : Program} {w : World} {K : PySem.W.Frag} {mg : Str → Option Value} {base : Heap}
abbrev s_is_forest : Stmt := top 25
theorem sc_is_forest : FnScope ["many", "wishes", "a", "b"] ["many", "wishes"] (defScope s_is_forest) := ⟨rfl, rfl, rfl, by decide +kernel, rfl, by decide +kernel, by decide +kernel⟩
def sp_is_forest : Sp := fun vs H Q _ => ∃ (v : V) (wa : Addr) (wl : List (Nat × Nat)), vs = [v, .ref wa] ∧ Wsh H wa wl ∧ wl.length ≤ 8 ∧ ∀ H', Same H H' → Q (.bl (decide ((wl.map (·.2)).Nodup))) H'
theorem wsh_snd {H : Hp} {us : List V} {wl : List (Nat × Nat)} (h : All2 (WshV H) us wl) {g : Nat × Nat → V} : (List.range us.length).filterMap (fun i => (wl[i]?).map g) = wl.map g := by
  rw [h.length]
  have : ∀ k, k ≤ wl.length → (List.range k).filterMap (fun i => (wl[i]?).map g) = (wl.take k).map g := by
    intro k
    induction k with
    | zero => intro _; rfl
    | succ k ih =>
      intro hk
      have e : wl[k]? = some wl[k] := List.getElem?_eq_getElem (by omega)
      rw [range_snoc_fm, ih (by omega), take_snoc e, e, List.map_append] <;> rfl
  rw [this _ (Nat.le_refl _), List.take_length]
theorem r_is_forest (D : Df K mg "is_forest" s_is_forest) (T : Bi mg) : Rdy P w K mg base "is_forest" 1 ["many", "wishes"] sp_is_forest := by
  refine rdy D sc_is_forest (fun _ _ _ _ _ _ us hl => match us, hl with | [_, _], _ => rfl) (fun vs H Q E h => ?_) (fun f cdv A outer s H vs Q E hr h => ?_)
  · obtain ⟨v, wa, wl, rfl, _⟩ := h
    rfl
  obtain ⟨v, wa, wl, rfl, ⟨us, hwa, hwl⟩, w8, q⟩ := h
  refine ⟨_, (pss_one (ps_ret (pe_cmpR op_eq (pe_lenSet rfl T.b_len rfl T.b_set (pe_lc (own := [("a", 2), ("b", 3)]) rfl sc_is_forest.nd (pi_tup (pv 1)) (blkOk_by (N := ["many", "wishes", "a", "b"]) (sc := defScope s_is_forest) (by decide +kernel)) (fun _ _ _ _ _ => (pg_tupK K 2 rfl (pgs_cons (pg_name (i := 2) sc_is_forest.nd rfl (Or.inl rfl) (Or.inr rfl)) (pgs_cons (pg_name (i := 3) sc_is_forest.nd rfl (Or.inl rfl) (Or.inr rfl)) pgs_nil)))) (fun _ _ _ _ _ => pts_nil) (fun _ _ _ _ _ => (pv 3)))) (pe_callB call_len_seq rfl T.b_len PySem.boot_len (pa_cons (pv 1) pa_nil)) (nomark _)))), ?_⟩
  have ul : us.length = wl.length := hwl.length
  refine ⟨_, rfl, wa, rfl, ⟨_, SqT.of hwa⟩, fun D hD => ?_⟩
  refine lc_fm walk_tup (fun i => (wl[i]?).map fun e => nv e.2) hD (by omega) (fun H' k => SqT.of (k _ _ hwa)) yAt_same (fun i x H0 H' R N hi k y r1 _ => ?_) (fun H1 k1 hl1 => ?_)
  · obtain ⟨e, he, b, rfl, hb⟩ := hwl.get' y.2
    exact ⟨_, _, rfl, SqT.of (k _ _ hb), rfl, _, _, rfl, _, _, rfl, rfl, rfl, yes (iteT ⟨_, rfl, r1 _ _ (by rw [he] <;> rfl) (Same.refl _)⟩)⟩
  rw [wsh_snd hwl] at hl1
  have ee : wl.map (fun e => nv e.2) = ((wl.map (·.2)).map fun j : Nat => (j : Int)).map V.int := by rw [List.map_map, List.map_map]; rfl
  refine ⟨D, (wl.map (·.2)).map (fun j : Nat => (j : Int)), rfl, SqL.of (by rw [hl1, ee]), by rw [List.length_map, List.length_map]; omega, ?_⟩
  refine ⟨_, rfl, wa, us, rfl, .inr (SqT.of (k1 _ _ hwa)), rfl, ?_⟩
  generalize hns : (wl.map (·.2)).map (fun j : Nat => (j : Int)) = ns
  have nl : ns.length = wl.length := by rw [← hns, List.length_map, List.length_map]
  have nd : ns.Nodup ↔ (wl.map (·.2)).Nodup := by
    rw [← hns]
    unfold List.Nodup
    rw [List.pairwise_map]
    exact ⟨fun h => h.imp fun hh z => hh (by rw [z]), fun h => h.imp fun hh z => hh (by omega)⟩
  have e : decide (V.int ((firstMet (fun i => ns.getD i 0) ns.length).length : Nat) = V.int (us.length : Nat)) = decide ((wl.map (·.2)).Nodup) := by
    rw [decide_eq_decide, ← nd, ← fm_nodup_iff, ul, ← nl]
    constructor
    · intro z; injection z with z; omega
    · intro z; rw [z]
  show Q (.bl (decide (V.int ((firstMet (fun i => ns.getD i 0) ns.length).length : Nat) = V.int (us.length : Nat)))) H1
  rw [e]
  exact q _ k1

abbrev s_ask_forest : Stmt := top 34
theorem sc_ask_forest : FnScope ["works", "wishes"] ["works", "wishes"] (defScope s_ask_forest) := ⟨rfl, rfl, rfl, by decide +kernel, rfl, by decide +kernel, by decide +kernel⟩
def sp_ask_forest : Sp := fun vs H Q _ => ∃ (a wa : Addr) (c : Int) (n : Nat) (p w : Nat → Int) (wl : List (Nat × Nat)), vs = [.ref a, .ref wa] ∧ Works H a c n p w ∧ Wsh H wa wl ∧ wl.length ≤ 8 ∧ (wl.map (·.2)).Nodup ∧ ∀ H', Same H H' → Q .non H'
theorem r_ask_forest (D : Df K mg "ask_forest" s_ask_forest) (T : Bi mg) (R_ask_ends : Rdy P w K mg base "ask_ends" 2 ["works"] sp_ask_ends) (R_is_forest : Rdy P w K mg base "is_forest" 1 ["many", "wishes"] sp_is_forest) : Rdy P w K mg base "ask_forest" 3 ["works", "wishes"] sp_ask_forest := by
  refine rdy D sc_ask_forest (fun _ _ _ _ _ _ us hl => match us, hl with | [_, _], _ => rfl) (fun vs H Q E h => ?_) (fun f cdv A outer s H vs Q E hr h => ?_)
  · obtain ⟨a, wa, c, n, p, w, wl, rfl, _⟩ := h
    rfl
  obtain ⟨a, wa, c, n, p, w, wl, rfl, hW, hwl, w8, nd, q⟩ := h
  refine ⟨_, (pss_cons (ps_expr (pe_cl R_ask_ends (hr.mono (by decide)) (pa_cons (pv 0) pa_nil)))
    (pss_one (ps_if (pt_not (pt_val (pe_cl R_is_forest (hr.mono (by decide)) (pa_cons (pe_callB call_len_seq rfl T.b_len PySem.boot_len (pa_cons (pv 0) pa_nil)) (pa_cons (pv 1) pa_nil))))) (pss_one ps_never) pss_nil))), ?_⟩
  refine ⟨_, rfl, a, c, n, p, w, rfl, hW, fun H1 k1 => ?_⟩
  obtain ⟨vs, hv1, hv2, _⟩ := (hW.kt (KT.same k1)).all
  refine ⟨_, rfl, a, vs, rfl, .inr (SqT.of hv1), _, rfl, _, wa, wl, rfl, hwl.kt (KT.same k1), w8, fun H2 k2 => ?_⟩
  rw [decide_eq_true nd]
  exact ⟨_, rfl, iteF (q _ (k1.trans k2))⟩
end
end NW
/-! k67 by hand, 10: lines and rows -/
namespace NW
open PySem PySem.Spec PyProof.Rows L2
/-- a pair of a list of blocks and a list of prices -/
def LineV (H : Hp) (r : Addr) (bs : List (List Nat)) (ps : List Ent) (b1 b2 : Addr) : Prop := H r = some (.tup [.ref b1, .ref b2]) ∧ b1 ≠ b2 ∧ (∃ us, H b1 = some (.lst us) ∧ All2 (BlkV H) us bs) ∧ ∃ us, H b2 = some (.lst us) ∧ All2 (EntV H) us ps
theorem desc_lt {wl : List (Nat × Nat)} {rk : Nat → Nat} {n f a : Nat} (h : Ranked wl rk n) (ha : a < n) : ∀ j ∈ desc wl f a, j < n := fun j hj => by
  rcases desc_reach f a j hj with rfl | r
  · exact ha
  · exact (h.reach r).2
theorem Good.blk {p w : Nat → Int} {re : Nat → Nat → Prop} {D : List Nat} {bs : List (List Nat)} {ps : List Ent} {n : Nat} (h : Good p w re D bs ps) (hD : D.length ≤ 8) (hn : ∀ j ∈ D, j < n) : ∀ X ∈ bs, BlkOk8 n X := fun X hX => by
  refine ⟨h.ne X hX, ?_, fun j hj => hn j (h.perm.mem_iff.mp (List.mem_flatten.mpr ⟨X, hX, hj⟩))⟩
  have e := h.perm.length_eq
  obtain ⟨l, r, q⟩ := List.append_of_mem hX
  rw [q, List.flatten_append, List.flatten_cons, List.length_append, List.length_append] at e
  omega
theorem Good.len8 {p w : Nat → Int} {re : Nat → Nat → Prop} {D : List Nat} {bs : List (List Nat)} {ps : List Ent} (h : Good p w re D bs ps) (hD : D.length ≤ 8) : bs.length ≤ 8 ∧ ps.length ≤ 8 := by
  have := h.len
  omega
theorem Good.toD {p w : Nat → Int} {re : Nat → Nat → Prop} {D D' : List Nat} {bs : List (List Nat)} {ps : List Ent} (h : Good p w re D bs ps) (q : D.Perm D') : Good p w re D' bs ps where
  perm := h.perm.trans q
  ne := h.ne
  d1 := h.d1
  d2 := fun j hj => h.d2 j fun z => hj (q.mem_iff.mp z)
  ent := h.ent
  len := by rw [← q.length_eq]; exact h.len
theorem ch_fm {H : Hp} {us : List V} {wl : List (Nat × Nat)} (h : All2 (WshV H) us wl) (a : Nat) : (List.range us.length).filterMap (fun i => (wl[i]?).bind fun e => if e.1 = a then some (nv e.2) else none) = (ch wl a).map nv := by
  rw [h.length]
  unfold ch
  have : ∀ k, k ≤ wl.length → (List.range k).filterMap (fun i => (wl[i]?).bind fun e => if e.1 = a then some (nv e.2) else none) = (((wl.take k).filter fun e => e.1 == a).map (·.2)).map nv := by
    intro k
    induction k with
    | zero => intro _; rfl
    | succ k ih =>
      intro hk
      have e : wl[k]? = some wl[k] := List.getElem?_eq_getElem (by omega)
      rw [range_snoc_fm, ih (by omega), take_snoc e, e, List.filter_append, List.map_append, List.map_append]
      congr 1
      by_cases hz : wl[k].1 = a
      · simp [hz]
      · have : (wl[k].1 == a) = false := by simpa using hz
        simp [hz, this]
  rw [this _ (Nat.le_refl _), List.take_length]
def sp_line (f : Nat) : Sp := fun vs H Q _ => ∃ (a wa sa : Addr) (c : Int) (n : Nat) (p w : Nat → Int) (wl : List (Nat × Nat)) (rk : Nat → Nat) (S : List Nat) (r0 : Nat), vs = [.ref a, .ref wa, .ref sa] ∧ Works H a c n p w ∧ Wsh H wa wl ∧ wl.length ≤ 8 ∧ Ranked wl rk n ∧ H sa = some (.lst (S.map nv)) ∧
  (∀ j ∈ S, j < n ∧ r0 ≤ rk j) ∧ r0 ≤ n ∧ n + 1 ≤ r0 + f ∧ (S.flatMap (desc wl f)).Nodup ∧ (S.flatMap (desc wl f)).length ≤ 8 ∧
  ∀ (r : Addr) (H' : Hp) (bs : List (List Nat)) (ps : List Ent) (b1 b2 : Addr), Same H H' → H b1 = none → H b2 = none → LineV H' r bs ps b1 b2 → Good p w (Reach wl) (S.flatMap (desc wl f)) bs ps → bs.Pairwise (fun X Y => rho p w Y ≤ rho p w X) → Q (.ref r) H'
def sp_row (f : Nat) : Sp := fun vs H Q _ => ∃ (a wa : Addr) (c : Int) (n : Nat) (p w : Nat → Int) (wl : List (Nat × Nat)) (rk : Nat → Nat) (j0 : Nat), vs = [.ref a, .ref wa, nv j0] ∧ Works H a c n p w ∧ Wsh H wa wl ∧ wl.length ≤ 8 ∧ Ranked wl rk n ∧
  j0 < n ∧ n ≤ rk j0 + f ∧ (desc wl (f + 1) j0).Nodup ∧ (desc wl (f + 1) j0).length ≤ 8 ∧
  ∀ (r : Addr) (H' : Hp) (bs : List (List Nat)) (ps : List Ent) (b1 b2 : Addr), Same H H' → H b1 = none → H b2 = none → LineV H' r bs ps b1 b2 → Good p w (Reach wl) (desc wl (f + 1) j0) bs ps → Q (.ref r) H'
section
variable {P : Program} {w : World} {K : PySem.W.Frag} {mg : Str → Option Value} {base : Heap}
abbrev s_line : Stmt := top 39
theorem sc_line : FnScope ["works", "wishes", "some", "blocks", "prices", "a", "row", "found"] ["works", "wishes", "some"] (defScope s_line) := ⟨rfl, rfl, rfl, by decide +kernel, rfl, by decide +kernel, by decide +kernel⟩
abbrev s_block_row : Stmt := top 38
theorem sc_block_row : FnScope ["works", "wishes", "a", "blocks", "prices", "block", "taken", "one", "b"] ["works", "wishes", "a"] (defScope s_block_row) := ⟨rfl, rfl, rfl, by decide +kernel, rfl, by decide +kernel, by decide +kernel⟩
theorem fm_len_le {wl : List (Nat × Nat)} {f : Nat} {S : List Nat} {a : Nat} (h : a ∈ S) : (desc wl f a).length ≤ (S.flatMap (desc wl f)).length := by
  obtain ⟨l, r, rfl⟩ := List.append_of_mem h
  rw [List.flatMap_append, List.flatMap_cons, List.length_append, List.length_append]
  omega
theorem fm_nd {wl : List (Nat × Nat)} {f : Nat} {S : List Nat} {a : Nat} (h : a ∈ S) (q : (S.flatMap (desc wl f)).Nodup) : (desc wl f a).Nodup := by
  obtain ⟨l, r, rfl⟩ := List.append_of_mem h
  rw [List.flatMap_append, List.flatMap_cons] at q
  exact (List.nodup_append.mp (List.nodup_append.mp q).2.1).1
theorem fm_take {wl : List (Nat × Nat)} {f : Nat} {S : List Nat} {i a : Nat} (h : S[i]? = some a) : (S.take (i + 1)).flatMap (desc wl f) = (S.take i).flatMap (desc wl f) ++ desc wl f a := by
  rw [take_snoc h, List.flatMap_append]; simp
theorem fm_take_le {wl : List (Nat × Nat)} {f : Nat} {S : List Nat} (i : Nat) : ((S.take i).flatMap (desc wl f)).length ≤ (S.flatMap (desc wl f)).length ∧ ((S.flatMap (desc wl f)).Nodup → ((S.take i).flatMap (desc wl f)).Nodup) := by
  have e : S.flatMap (desc wl f) = (S.take i).flatMap (desc wl f) ++ (S.drop i).flatMap (desc wl f) := by rw [← List.flatMap_append, List.take_append_drop]
  refine ⟨by rw [e, List.length_append]; omega, fun h => ?_⟩
  rw [e] at h
  exact (List.nodup_append.mp h).1
theorem r_line {f : Nat} (D : Df K mg "line" s_line) (T : Bi mg) (R_block_row : Rdy P w K mg base "block_row" (2 * f + 6) ["works", "wishes", "a"] (sp_row f)) (R_by_rates : Rdy P w K mg base "by_rates" 4 ["works", "blocks"] sp_by_rates) : Rdy P w K mg base "line" (2 * f + 6 + 1) ["works", "wishes", "some"] (sp_line (f + 1)) := by
  refine rdy D sc_line (fun _ _ _ _ _ _ us hl => match us, hl with | [_, _, _], _ => rfl) (fun vs H Q E h => ?_) (fun ff cdv A outer s H vs Q E hr h => ?_)
  · obtain ⟨a, wa, sa, c, n, p, w, wl, rk, S, r0, rfl, _⟩ := h
    rfl
  obtain ⟨a, wa, sa, c, n, p, w, wl, rk, S, r0, rfl, hW, hwl, w8, hrk, hsa, hS, hr0, hf, nd, l8, q⟩ := h
  refine ⟨_, (pss_cons (ps_set (i := 3) sc_line.nd rfl (Or.inl rfl) (pe_lst pa_nil))
    (pss_cons (ps_set (i := 4) sc_line.nd rfl (Or.inl rfl) (pe_lst pa_nil))
    (pss_cons (ps_for PassesOwn.never rfl (pi_list (pv 2)) (pg_name (i := 5) sc_line.nd rfl (Or.inl rfl))
      (pss_cons (ps_asg (pe_cl R_block_row hr (pa_cons (pv 0) (pa_cons (pv 1) (pa_cons (pv 5) pa_nil)))) (pg_tup rfl (pgs_cons (pg_name (i := 6) sc_line.nd rfl (Or.inl rfl)) (pgs_cons (pg_name (i := 7) sc_line.nd rfl (Or.inl rfl)) pgs_nil))))
      (pss_cons (ps_expr (pe_bm PySem.F.plainAttrs_list PySem.F.slot_list_extend PySem.F.type_list_extend mt_extend (pv 3) (pa_cons (pv 6) pa_nil)))
      (pss_one (ps_expr (pe_bm PySem.F.plainAttrs_list PySem.F.slot_list_extend PySem.F.type_list_extend mt_extend (pv 4) (pa_cons (pv 7) pa_nil)))))))
    (pss_one (ps_ret (pe_tup (pa_cons (pe_cl R_by_rates (hr.mono (by omega)) (pa_cons (pv 0) (pa_cons (pv 3) pa_nil))) (pa_cons (pv 4) pa_nil)))))))), ?_⟩
  refine ⟨(by show 0 ≤ sizeLine; decide), fun x0 hx0 => ⟨(by show 0 ≤ sizeLine; decide), fun y0 hy0 => ?_⟩⟩
  have kx : Same H (upd H x0 (.lst [])) := same_new hx0
  have ky : Same H (upd (upd H x0 (.lst [])) y0 (.lst [])) := kx.trans (same_new hy0)
  have nxy : y0 ≠ x0 := fun z => by rw [z, upd_same] at hy0; cases hy0
  have hy0H : H y0 = none := kx.free hy0
  refine ⟨_, rfl, sa, rfl, ⟨_, SqL.of (ky _ _ hsa)⟩, ?_⟩
  refine for_list (fun i σ H' => Same H H' ∧ (∃ us bs ps es, H' x0 = some (.lst us) ∧ All2 (BlkV H') us bs ∧ H' y0 = some (.lst ps) ∧ All2 (EntV H') ps es ∧ Good p w (Reach wl) ((S.take i).flatMap (desc wl (f + 1))) bs es) ∧ ∃ x y z, σ = [some (.ref a), some (.ref wa), some (.ref sa), some (.ref x0), some (.ref y0), x, y, z])
    ⟨ky, ⟨[], [], [], [], by rw [upd_ne (Ne.symm nxy), upd_same], .nil, upd_same, .nil, Good.nil⟩, _, _, _, rfl⟩ (fun i σ H' _ h => SqL.of (h.1 _ _ hsa)) (fun i x σ H1 hx h => ?_) (fun σ H1 h => ?_)
  · obtain ⟨k1, ⟨us, bs, ps, es, e1, a1, e2, a2, g1⟩, x1, y1, z1, rfl⟩ := h
    obtain ⟨j, hj, rfl⟩ := nv_at hx
    have hjS := List.mem_of_getElem? hj
    obtain ⟨jn, jr⟩ := hS j hjS
    refine ⟨_, rfl, _, rfl, _, rfl, a, wa, c, n, p, w, wl, rk, j, rfl, hW.kt (KT.same k1), hwl.kt (KT.same k1), w8, hrk, jn, by omega, fm_nd hjS nd, Nat.le_trans (fm_len_le hjS) l8, fun r H2 bs2 es2 b1 b2 k2 hb1 hb2 lv g2 => ?_⟩
    obtain ⟨hr, nb, ⟨us2, f1, c1⟩, ps2, f2, c2⟩ := lv
    refine ⟨_, _, rfl, SqT.of hr, rfl, _, _, rfl, _, _, rfl, rfl, ?_⟩
    have e1' := k2 _ _ e1
    have e2' := k2 _ _ e2
    have t1 := fm_take_le (wl := wl) (f := f + 1) (S := S) i
    have t2 := fm_take_le (wl := wl) (f := f + 1) (S := S) (i + 1)
    have d8 := Nat.le_trans (fm_len_le (wl := wl) (f := f + 1) hjS) l8
    have L1 := g1.len8 (by omega)
    have L2' := g2.len8 d8
    have ul := a1.length
    have pl := a2.length
    have ul2 := c1.length
    have pl2 := c2.length
    -- blocks.extend(row)
    refine ⟨_, rfl, .inl ⟨rfl, _, SqL.of e1'⟩, _, rfl, x0, b1, us, us2, rfl, rfl, e1', f1, Nat.le_of_lt (lst_len (by omega)), ?_⟩
    have nb2x : b2 ≠ x0 := fun z => by rw [z, e1] at hb2; cases hb2
    have ny : y0 ≠ x0 := nxy
    have e2'' : (upd H2 x0 (.lst (us ++ us2))) y0 = some (.lst ps) := by rw [upd_ne ny]; exact e2'
    have f2'' : (upd H2 x0 (.lst (us ++ us2))) b2 = some (.lst ps2) := by rw [upd_ne nb2x]; exact f2
    refine ⟨_, rfl, .inl ⟨rfl, _, SqL.of e2''⟩, _, rfl, y0, b2, ps, ps2, rfl, rfl, e2'', f2'', Nat.le_of_lt (lst_len (by omega)), ?_⟩
    have kt1 : KT H2 (upd H2 x0 (.lst (us ++ us2))) := KT.lst e1'
    have kt2 : KT (upd H2 x0 (.lst (us ++ us2))) (upd (upd H2 x0 (.lst (us ++ us2))) y0 (.lst (ps ++ ps2))) := KT.lst e2''
    have kt := kt1.trans kt2
    have kt0 := (KT.same k2).trans kt
    refine ⟨fun b o hb => ?_, ⟨us ++ us2, bs ++ bs2, ps ++ ps2, es ++ es2, ?_, ?_, upd_same, ?_, ?_⟩, _, _, _, rfl⟩
    · rw [upd_ne (ne_of_none hb hy0H), upd_ne (ne_of_none hb hx0)]
      exact k2 _ _ (k1 _ _ hb)
    · rw [upd_ne (Ne.symm nxy), upd_same]
    · exact (a1.imp fun _ _ => BlkV.kt kt0).append (c1.imp fun _ _ => BlkV.kt kt)
    · exact (a2.imp fun _ _ => EntV.kt kt0).append (c2.imp fun _ _ => EntV.kt kt)
    · rw [fm_take hj]
      have := t2.2 nd
      rw [fm_take hj] at this
      exact g1.append g2 this
  · obtain ⟨k1, ⟨us, bs, ps, es, e1, a1, e2, a2, g1⟩, x1, y1, z1, rfl⟩ := h
    rw [List.length_map, List.take_length] at g1
    have L1 := g1.len8 l8
    have lt : ∀ j ∈ S.flatMap (desc wl (f + 1)), j < n := fun j hj => by
      obtain ⟨b, hb, hjb⟩ := List.mem_flatMap.mp hj
      exact desc_lt hrk (hS b hb).1 j hjb
    refine ⟨_, rfl, _, rfl, a, x0, c, n, p, w, us, bs, rfl, hW.kt (KT.same k1), e1, a1, g1.blk l8 lt, L1.1, fun r H2 us' bs' k2 hr2 hr2' a3 pm srt => ?_⟩
    refine ⟨_, rfl, (by show 2 ≤ sizeLine; decide), fun p3 hp3 => ?_⟩
    have k3 : Same H2 (upd H2 p3 (.tup [.ref r, .ref y0])) := same_new hp3
    refine q p3 _ bs' es r y0 (k1.trans (k2.trans k3)) (k1.free hr2) hy0H ⟨upd_same, fun z => ?_, ⟨us', k3 _ _ hr2', a3.imp fun _ _ => BlkV.kt (KT.same k3)⟩, ps, k3 _ _ (k2 _ _ e2), a2.imp fun _ _ => EntV.kt (KT.same (k2.trans k3))⟩ (g1.sort pm) srt
    rw [z, e2] at hr2
    cases hr2
end
end NW
/-! k67 by hand, 11: rows; both by one induction -/
namespace NW
open PySem PySem.Spec PyProof.Rows L2
theorem cutK (xs : List V) (k : Nat) (h : k ≤ xs.length) : cutV xs (some (k : Int)) none = xs.drop k := by
  unfold cutV
  have h1 : HT.sIx xs.length 0 (some (k : Int)) = min k xs.length := HT.sIx_nat xs.length 0 k
  have h2 : HT.sIx xs.length xs.length none = xs.length := rfl
  rw [h1, h2, Nat.min_eq_left h, List.take_of_length_le]
  simp
section
variable {P : Program} {w : World} {K : PySem.W.Frag} {mg : Str → Option Value} {base : Heap}
theorem r_row {f : Nat} (D : Df K mg "block_row" s_block_row) (T : Bi mg) (R_line : Rdy P w K mg base "line" (2 * f + 5) ["works", "wishes", "some"] (sp_line f)) (R_less : Rdy P w K mg base "less" 1 ["one", "other"] sp_less) (R_rate : Rdy P w K mg base "rate" 3 ["works", "block"] sp_rate) (R_paid : Rdy P w K mg base "paid" 4 ["works", "a", "taken", "block"] sp_paid) :
    Rdy P w K mg base "block_row" (2 * f + 5 + 1) ["works", "wishes", "a"] (sp_row f) := by
  refine rdy D sc_block_row (fun _ _ _ _ _ _ us hl => match us, hl with | [_, _, _], _ => rfl) (fun vs H Q E h => ?_) (fun ff cdv A outer s H vs Q E hr h => ?_)
  · obtain ⟨a, wa, c, n, p, w, wl, rk, j0, rfl, _⟩ := h
    rfl
  obtain ⟨a, wa, c, n, p, w, wl, rk, j0, rfl, hW, hwl, w8, hrk, hj0, hf, nd, l8, q⟩ := h
  refine ⟨_, (pss_cons (ps_asg (pe_cl R_line hr (pa_cons (pv 0) (pa_cons (pv 1) (pa_cons (pe_lc (own := [("one", 7), ("b", 8)]) rfl sc_block_row.nd (pi_tup (pv 1)) (blkOk_by (N := ["works", "wishes", "a", "blocks", "prices", "block", "taken", "one", "b"]) (sc := defScope s_block_row) (by decide +kernel)) (fun _ _ _ _ _ => (pg_tupK K 2 rfl (pgs_cons (pg_name (i := 7) sc_block_row.nd rfl (Or.inl rfl) (Or.inr rfl)) (pgs_cons (pg_name (i := 8) sc_block_row.nd rfl (Or.inl rfl) (Or.inr rfl)) pgs_nil)))) (fun _ _ _ _ _ => pts_one (pt_cmpR op_eq (pv 7) (pv 2) (nomark _))) (fun _ _ _ _ _ => (pv 8))) pa_nil)))) (pg_tup rfl (pgs_cons (pg_name (i := 3) sc_block_row.nd rfl (Or.inl rfl)) (pgs_cons (pg_name (i := 4) sc_block_row.nd rfl (Or.inl rfl)) pgs_nil))))
    (pss_cons (ps_set (i := 5) sc_block_row.nd rfl (Or.inl rfl) (pe_tup (pa_cons (pv 2) pa_nil)))
    (pss_cons (ps_set (i := 6) sc_block_row.nd rfl (Or.inl rfl) (pe_lst pa_nil))
    (pss_cons (ps_while PassesOwn.never (PW.pt (pw_and (pt_cmpR op_lt (pe_callB call_len_seq rfl T.b_len PySem.boot_len (pa_cons (pv 6) pa_nil)) (pe_callB call_len_seq rfl T.b_len PySem.boot_len (pa_cons (pv 3) pa_nil)) (nomark _)) (pw_and1 (pt_val (pe_cl R_less (hr.mono (by omega)) (pa_cons (pe_cl R_rate (hr.mono (by omega)) (pa_cons (pv 0) (pa_cons (pv 5) pa_nil))) (pa_cons (pe_cl R_rate (hr.mono (by omega)) (pa_cons (pv 0) (pa_cons (pe_ix ix_list (pv 3) (pe_callB call_len_seq rfl T.b_len PySem.boot_len (pa_cons (pv 6) pa_nil)) (fun _ _ => rfl)) pa_nil))) pa_nil)))))))
      (pss_cons (ps_set (i := 5) sc_block_row.nd rfl (Or.inl rfl) (pe_op op_catA (pv 5) (pe_ix ix_list (pv 3) (pe_callB call_len_seq rfl T.b_len PySem.boot_len (pa_cons (pv 6) pa_nil)) (fun _ _ => rfl))))
      (pss_one (ps_expr (pe_bm PySem.F.plainAttrs_list PySem.F.slot_list_append PySem.F.type_list_append mt_append (pv 6) (pa_cons (pe_ix ix_list (pv 3) (pe_callB call_len_seq rfl T.b_len PySem.boot_len (pa_cons (pv 6) pa_nil)) (fun _ _ => rfl)) pa_nil))))))
    (pss_one (ps_ret (pe_tup (pa_cons (pe_op op_cat (pe_lst (pa_cons (pv 5) pa_nil)) (pe_slice sl_list (pv 3) (po_some (pe_callB call_len_seq rfl T.b_len PySem.boot_len (pa_cons (pv 6) pa_nil))) po_none)) (pa_cons (pe_op op_cat (pv 4) (pe_cl R_paid (hr.mono (by omega)) (pa_cons (pv 0) (pa_cons (pv 2) (pa_cons (pv 6) (pa_cons (pv 5) pa_nil)))))) pa_nil))))))))), ?_⟩
  obtain ⟨us, hwa, hus⟩ := id hwl
  have ul : us.length = wl.length := hus.length
  refine ⟨_, rfl, _, rfl, _, rfl, wa, rfl, ⟨_, SqT.of hwa⟩, fun D0 hD0 => ?_⟩
  refine lc_fm walk_tup (fun i => (wl[i]?).bind fun e => if e.1 = j0 then some (nv e.2) else none) hD0 (by omega) (fun H' k => SqT.of (k _ _ hwa)) yAt_same (fun i x H0 H' R N hi k y r1 r2 => ?_) (fun H1 k1 hl1 => ?_)
  · obtain ⟨e, he, b, rfl, hb⟩ := hus.get' y.2
    refine ⟨_, _, rfl, SqT.of (k _ _ hb), rfl, _, _, rfl, _, _, rfl, rfl, rfl, ?_⟩
    refine ⟨_, rfl, _, rfl, rfl, _, rfl, ?_⟩
    by_cases hz : e.1 = j0
    · have e1 : decide (nv e.1 = nv j0) = true := decide_eq_true (by rw [hz])
      have : (if decide (nv e.1 = nv j0) = true then R (nv e.2) H' else N H') := by
        rw [e1]
        exact iteT (r1 _ _ (by rw [he]; simp [hz]) (Same.refl _))
      rw [e1] at this ⊢
      rw [if_pos rfl] at this
      exact iteT ⟨_, rfl, this⟩
    · have e1 : decide (nv e.1 = nv j0) = false := decide_eq_false fun z => hz (by
        injection z with z
        omega)
      rw [e1]
      exact iteF (r2 (by rw [he]; simp [hz]) _ (Same.refl _))
  rw [ch_fm hus] at hl1
  -- line
  have hrk0 := hrk.rl j0 hj0
  have nd' := List.nodup_cons.mp (show (j0 :: (ch wl j0).flatMap (desc wl f)).Nodup from nd)
  have l8' : ((ch wl j0).flatMap (desc wl f)).length + 1 ≤ 8 := l8
  refine ⟨a, wa, D0, c, n, p, w, wl, rk, ch wl j0, rk j0 + 1, rfl, hW.kt (KT.same k1), hwl.kt (KT.same k1), w8, hrk, hl1, fun j hj => ?_, by omega, by omega, nd'.2, by omega, fun r H2 bs ps b1 b2 k2 hb1 hb2 lv g srt => ?_⟩
  · have m := ch_mem.mp hj
    exact ⟨(hrk.lt _ m).2, hrk.up _ m⟩
  obtain ⟨hr2, nb, ⟨vs, f1, a1⟩, es, f2, a2⟩ := lv
  refine ⟨_, _, rfl, SqT.of hr2, rfl, _, _, rfl, _, _, rfl, rfl, ?_⟩
  have k02 := k1.trans k2
  have vl := a1.length
  have pl := a2.length
  have D8 : ((ch wl j0).flatMap (desc wl f)).length ≤ 8 := by omega
  have L1 := g.len8 D8
  have ltD : ∀ j ∈ (ch wl j0).flatMap (desc wl f), j < n := fun j hj => by
    obtain ⟨b, hb, hjb⟩ := List.mem_flatMap.mp hj
    exact desc_lt hrk (hrk.lt _ (ch_mem.mp hb)).2 j hjb
  have okB := g.blk D8 ltD
  have gl := g.perm.length_eq
  have split : ∀ k, bs.flatten = (bs.take k).flatten ++ (bs.drop k).flatten := fun k => by rw [← List.flatten_append, List.take_append_drop]
  have bn : bs.flatten.Nodup := g.perm.nodup_iff.mpr nd'.2
  have okk : ∀ k, BlkOk8 n (j0 :: (bs.take k).flatten) := fun k => by
    refine ⟨by simp, ?_, fun j hj => ?_⟩
    · have e := congrArg List.length (split k)
      rw [List.length_append] at e
      rw [List.length_cons]; omega
    · rcases List.mem_cons.mp hj with rfl | hj
      · exact hj0
      · exact ltD j (g.perm.mem_iff.mp (by rw [split k]; exact List.mem_append_left _ hj))
  -- block = (a,), taken = []
  refine ⟨_, rfl, (by show 1 ≤ sizeLine; decide), fun q0 hq0 => ?_⟩
  refine ⟨(by show 0 ≤ sizeLine; decide), fun t0 ht0 => ?_⟩
  have kq : Same H2 (upd H2 q0 (.tup [nv j0])) := same_new hq0
  have kt : Same H2 (upd (upd H2 q0 (.tup [nv j0])) t0 (.lst [])) := kq.trans (same_new ht0)
  have ht2 : H2 t0 = none := kq.free ht0
  have k3 := k02.trans kt
  refine ⟨fun m σ H' => Same H2 H' ∧ ∃ (k : Nat) (bq : Addr), m = bs.length - k ∧ k ≤ bs.length ∧ (∀ i, i < k → rho p w (j0 :: (bs.take i).flatten) < rho p w (bs.getD i [])) ∧ H' bq = some (.tup ((j0 :: (bs.take k).flatten).map nv)) ∧ H' t0 = some (.lst (vs.take k)) ∧
      σ = [some (.ref a), some (.ref wa), some (nv j0), some (.ref b1), some (.ref b2), some (.ref bq), some (.ref t0), none, none],
    ⟨bs.length, kt, 0, q0, rfl, Nat.zero_le _, fun i hi => absurd hi (Nat.not_lt_zero _), by rw [upd_ne (fun z => by rw [← z, upd_same] at ht0; cases ht0), upd_same] <;> rfl, upd_same, rfl⟩, ?_⟩
  rintro m σ H3 ⟨k23, k, bq, rfl, hk, hlt, hbq, ht, rfl⟩
  have k03 := k02.trans k23
  have tl : (vs.take k).length = k := by rw [List.length_take]; omega
  -- what follows the loop
  have fin : ∀ H4, Same H3 H4 → tRet (tTup (tCons (tOp rCat (tLst (tCons (tVar 5) tNil)) (tSl (rSlL K) (tVar 3) (tPart (tCB (fun xs H Q => ∃ p ys, xs = [.ref p] ∧ (SqL K H p ys ∨ SqT K H p ys) ∧ Q (.int ys.length) H) (tCons (tVar 6) tNil))) (fun _ H Q => Q none H))) (tCons (tOp rCat (tVar 4) (tCall sp_paid [] E0 (tCons (tVar 0) (tCons (tVar 2) (tCons (tVar 6) (tCons (tVar 5) tNil)))))) tNil)))
      { nx := fun _ H' => Q .non H', rt := Q } [some (.ref a), some (.ref wa), some (nv j0), some (.ref b1), some (.ref b2), some (.ref bq), some (.ref t0), none, none] H4 := fun H4 k34 => by
    have k04 := k03.trans k34
    have k24 := k23.trans k34
    have hbq4 := k34 _ _ hbq
    have ht4 := k34 _ _ ht
    refine ⟨_, rfl, (by show 1 ≤ sizeLine; decide), fun l5 hl5 => ?_⟩
    have k5 : Same H4 (upd H4 l5 (.lst [.ref bq])) := same_new hl5
    refine ⟨_, rfl, _, rfl, t0, _, rfl, .inl (SqL.of (k5 _ _ ht4)), _, rfl, b1, vs, rfl, SqL.of (k5 _ _ (k24 _ _ f1)), fun l6 hl6 => ?_⟩
    rw [tl, cutK vs k (by omega)]
    generalize hH6 : upd (upd H4 l5 (.lst [.ref bq])) l6 (.lst (vs.drop k)) = H6
    have k46 : Same H4 H6 := by rw [← hH6]; exact k5.trans (same_new hl6)
    have hl6' : H6 l6 = some (.lst (vs.drop k)) := by rw [← hH6, upd_same]
    have hl5' : H6 l5 = some (.lst [.ref bq]) := by rw [← hH6]; exact same_new hl6 _ _ upd_same
    refine ⟨l5, l6, _, _, rfl, rfl, hl5', hl6', by rw [List.length_drop]; exact Nat.le_of_lt (lst_len (by simp; omega)), fun l7 hl7 => ?_⟩
    generalize hH7 : upd H6 l7 (.lst ([.ref bq] ++ vs.drop k)) = H7
    have k67 : Same H6 H7 := by rw [← hH7]; exact same_new hl7
    have hl7' : H7 l7 = some (.lst ([.ref bq] ++ vs.drop k)) := by rw [← hH7, upd_same]
    have k47 := k46.trans k67
    have k07 := k04.trans k47
    have tf := congrArg List.length (split k)
    rw [List.length_append] at tf
    refine ⟨_, rfl, _, rfl, _, rfl, _, rfl, _, rfl, a, t0, bq, j0, c, n, p, w, vs.take k, bs.take k, j0 :: (bs.take k).flatten, rfl, hW.kt (KT.same k07), k47 _ _ ht4, (a1.take k).imp fun _ _ => BlkV.kt (KT.same (k24.trans k47)), k47 _ _ hbq4,
      fun X hX => okB X (List.mem_of_mem_take hX), okk k, by rw [List.length_take]; omega, by omega, flat_take_nd bn, fun l8 H8 us8 es8 k78 hl8 hl8' a8 pd => ?_⟩
    have k48 := k47.trans k78
    have len8 : es8.length = k := by rw [pd.len, List.length_take]; omega
    have u8 := a8.length
    refine ⟨b2, l8, es, us8, rfl, rfl, k48 _ _ (k24 _ _ f2), hl8', Nat.le_of_lt (lst_len (by omega)), fun l9 hl9 => ?_⟩
    generalize hH9 : upd H8 l9 (.lst (es ++ us8)) = H9
    have k89 : Same H8 H9 := by rw [← hH9]; exact same_new hl9
    have hl9' : H9 l9 = some (.lst (es ++ us8)) := by rw [← hH9, upd_same]
    refine ⟨(by show 2 ≤ sizeLine; decide), fun p9 hp9 => ?_⟩
    generalize hHe : upd H9 p9 (.tup [.ref l7, .ref l9]) = He
    have k9e : Same H9 He := by rw [← hHe]; exact same_new hp9
    have hp9' : He p9 = some (.tup [.ref l7, .ref l9]) := by rw [← hHe, upd_same]
    have k7e := k78.trans (k89.trans k9e)
    have k4e := k47.trans k7e
    have n79 : l7 ≠ l9 := fun z => by
      have z7 := k78 _ _ hl7'
      rw [z, hl9] at z7
      cases z7
    have F7 : H l7 = none := (k04.trans k46).free hl7
    have F9 : H l9 = none := (k04.trans k48).free hl9
    refine q p9 He ((j0 :: (bs.take k).flatten) :: bs.drop k) (ps ++ es8) l7 l9 (k04.trans k4e) F7 F9 ⟨hp9', n79, ⟨_, k7e _ _ hl7', ?_⟩, _, k9e _ _ hl9', ?_⟩ ?_
    · exact .cons ⟨bq, rfl, k4e _ _ hbq4⟩ ((a1.drop k).imp fun _ _ => BlkV.kt (KT.same (k24.trans k4e)))
    · exact (a2.imp fun _ _ => EntV.kt (KT.same (k24.trans k4e))).append (a8.imp fun _ _ => EntV.kt (KT.same (k89.trans k9e)))
    · refine g.row (fun j => by have := hW.pp j; omega) srt nd (fun j hj => ?_) hk hlt pd
      obtain ⟨b, hb, hjb⟩ := List.mem_flatMap.mp hj
      have hb' := ch_mem.mp hb
      rcases desc_reach f b j hjb with rfl | rr
      · exact .one hb'
      · exact Reach.cons hb' rr
  refine ⟨_, rfl, t0, _, rfl, .inl (SqL.of ht), _, rfl, b1, vs, rfl, .inl (SqL.of (k23 _ _ f1)), _, _, rfl, rfl, _, rfl, ?_⟩
  refine ite2 (fun cz => ?_) (fun cz => ?_)
  · have c' : (((vs.take k).length : Nat) : Int) < ((vs.length : Nat) : Int) := of_decide_eq_true cz
    have kl : k < bs.length := by omega
    have ev : vs[k]? = some (vs[k]'(by omega)) := List.getElem?_eq_getElem (by omega)
    obtain ⟨X, hX, xq, exq, hxq⟩ := a1.get' ev
    have okX := okB X (List.mem_of_getElem? hX)
    have eX : bs.getD k [] = X := by rw [List.getD_eq_getElem?_getD, hX]; rfl
    have eF : (bs.take (k + 1)).flatten = (bs.take k).flatten ++ X := by
      rw [take_snoc hX, List.flatten_append]; simp
    have ok1 := okk k
    refine ⟨_, rfl, _, rfl, a, _, c, n, p, w, _, rfl, hW.kt (KT.same k03), ⟨bq, rfl, hbq⟩, ok1.1, ok1.2.1, ok1.2.2, fun r1 H4 t1 d1 k34 fr1 hr1 => ?_⟩
    refine ⟨_, rfl, _, rfl, _, rfl, t0, _, rfl, .inl (SqL.of (k34 _ _ ht)), _, _, _, _, rfl, rfl, SqL.of (k34 _ _ (k23 _ _ f1)), (show atI vs (((vs.take k).length : Nat) : Int) = some _ from by rw [tl]; exact atI_nat ev), ?_⟩
    rw [exq]
    refine ⟨a, _, c, n, p, w, X, rfl, hW.kt (KT.same (k03.trans k34)), ⟨xq, rfl, k34 _ _ (k23 _ _ hxq)⟩, okX.1, okX.2.1, okX.2.2, fun r2 H5 t2 d2 k45 fr2 hr2' => ?_⟩
    refine ⟨_, _, t1, d1, t2, d2, rfl, ⟨r1, rfl, k45 _ _ hr1⟩, ⟨r2, rfl, hr2'⟩, fr1.t64, fr2.t64, _, rfl, ?_⟩
    have k35 := k34.trans k45
    refine ite2 (fun dz => ?_) (fun dz => ?_)
    · have lt : rho p w (j0 :: (bs.take k).flatten) < rho p w X := by
        have z := (frac_lt fr1.b0 fr2.b0).mp (of_decide_eq_true dz)
        rw [fr1.v, fr2.v] at z
        exact z
      refine ⟨fun σ' H' => ∃ m', m' < bs.length - k ∧ Same H2 H' ∧ ∃ (k : Nat) (bq : Addr), m' = bs.length - k ∧ k ≤ bs.length ∧ (∀ i, i < k → rho p w (j0 :: (bs.take i).flatten) < rho p w (bs.getD i [])) ∧ H' bq = some (.tup ((j0 :: (bs.take k).flatten).map nv)) ∧ H' t0 = some (.lst (vs.take k)) ∧
        σ' = [some (.ref a), some (.ref wa), some (nv j0), some (.ref b1), some (.ref b2), some (.ref bq), some (.ref t0), none, none], fun _ _ h => h, ?_⟩
      refine ⟨_, rfl, _, rfl, _, rfl, t0, _, rfl, .inl (SqL.of (k35 _ _ ht)), _, _, _, _, rfl, rfl, SqL.of (k35 _ _ (k23 _ _ f1)), (show atI vs (((vs.take k).length : Nat) : Int) = some _ from by rw [tl]; exact atI_nat ev), ?_⟩
      rw [exq]
      refine ⟨bq, xq, _, _, rfl, rfl, SqT.of (k35 _ _ hbq), SqT.of (k35 _ _ (k23 _ _ hxq)), ?_, fun z => absurd z (by simp), fun _ z => absurd z (by simpa using okX.1), fun _ _ p6 hp6 => ?_⟩
      · rw [List.length_map, List.length_map]
        have := ok1.2.1
        have := okX.2.1
        exact Nat.le_of_lt (lst_len (by omega))
      generalize hH6 : upd H5 p6 (.tup ((j0 :: (bs.take k).flatten).map nv ++ X.map nv)) = H6
      have k56 : Same H5 H6 := by rw [← hH6]; exact same_new hp6
      have hp6' : H6 p6 = some (.tup ((j0 :: (bs.take (k + 1)).flatten).map nv)) := by
        rw [← hH6, upd_same, eF, ← List.map_append]; rfl
      have k36 := k35.trans k56
      have ht6 := k36 _ _ ht
      refine ⟨_, rfl, .inl ⟨rfl, _, SqL.of ht6⟩, _, rfl, _, rfl, t0, _, rfl, .inl (SqL.of ht6), _, _, _, _, rfl, rfl, SqL.of (k36 _ _ (k23 _ _ f1)), (show atI vs (((vs.take k).length : Nat) : Int) = some _ from by rw [tl]; exact atI_nat ev), ?_⟩
      refine ⟨t0, _, _, rfl, rfl, ht6, lst_len (by omega), ?_⟩
      have ktt : KT H6 (upd H6 t0 (.lst (vs.take k ++ [vs[k]'(by omega)]))) := KT.lst ht6
      refine ⟨bs.length - (k + 1), by omega, fun b o hb => ?_, k + 1, p6, rfl, by omega, fun i hi => ?_, ktt _ _ hp6', ?_, rfl⟩
      · rw [upd_ne (ne_of_none hb ht2)]
        exact k36 _ _ (k23 _ _ hb)
      · by_cases z : i = k
        · subst z; rw [eX]; exact lt
        · exact hlt i (by omega)
      · rw [upd_same, take_snoc ev]
    · exact fin H5 k35
  · exact fin H3 (Same.refl _)
theorem line_none {ps : List Str} (D : Df K mg "line" s_line) : Rdy P w K mg base "line" (2 * 0 + 5) ["works", "wishes", "some"] (sp_line 0) := by
  have no : ∀ vs H Q E, ¬ sp_line 0 vs H Q E := fun vs H Q E h => by
    obtain ⟨a, wa, sa, c, n, p, w, wl, rk, S, r0, _, _, _, _, _, _, _, h1, h2, _⟩ := h
    omega
  obtain ⟨f, fd, F, m⟩ := D
  exact ⟨f, fd, m, ⟨fun vs H Q E h => absurd h (no vs H Q E), fun A outer s H args us vs Q E _ _ _ _ h => absurd h (no vs H Q E)⟩, F.binds (fun _ _ _ _ _ _ us hl => match us, hl with | [_, _, _], _ => rfl), F.kp⟩
theorem r_lines (DL : Df K mg "line" s_line) (DR : Df K mg "block_row" s_block_row) (T : Bi mg) (R_by_rates : Rdy P w K mg base "by_rates" 4 ["works", "blocks"] sp_by_rates) (R_less : Rdy P w K mg base "less" 1 ["one", "other"] sp_less) (R_rate : Rdy P w K mg base "rate" 3 ["works", "block"] sp_rate) (R_paid : Rdy P w K mg base "paid" 4 ["works", "a", "taken", "block"] sp_paid) :
    ∀ f : Nat, Rdy P w K mg base "line" (2 * f + 5) ["works", "wishes", "some"] (sp_line f)
  | 0 => line_none (ps := []) DL
  | f + 1 => by
    have ih := r_lines DL DR T R_by_rates R_less R_rate R_paid f
    exact r_line DL T (r_row DR T ih R_less R_rate R_paid) R_by_rates
end
end NW
/-! k67 by hand, 12: whole_line, forest_order -/
namespace NW
open PySem PySem.Spec PyProof.Rows L2
theorem roots_fm {wl : List (Nat × Nat)} : ∀ n : Nat, (List.range n).filterMap (fun j => if j ∈ wl.map (·.2) then none else some (nv j)) = (roots wl n).map nv
  | 0 => rfl
  | n + 1 => by
    have ih := roots_fm (wl := wl) n
    unfold roots at ih ⊢
    rw [range_snoc_fm, ih, List.range_succ, List.filter_append, List.map_append]
    congr 1
    by_cases h : n ∈ wl.map (·.2)
    · rw [if_pos h, List.filter_cons_of_neg (by simpa using h)]; rfl
    · rw [if_neg h, List.filter_cons_of_pos (by simpa using h)]; rfl
section
variable {P : Program} {w : World} {K : PySem.W.Frag} {mg : Str → Option Value} {base : Heap}
abbrev s_whole_line : Stmt := top 40
theorem sc_whole_line : FnScope ["works", "wishes", "seconds", "a", "b", "j"] ["works", "wishes"] (defScope s_whole_line) := ⟨rfl, rfl, rfl, by decide +kernel, rfl, by decide +kernel, by decide +kernel⟩
def sp_whole_line : Sp := fun vs H Q _ => ∃ (a wa : Addr) (c : Int) (n : Nat) (p w : Nat → Int) (wl : List (Nat × Nat)) (rk : Nat → Nat), vs = [.ref a, .ref wa] ∧ Works H a c n p w ∧ Wsh H wa wl ∧ wl.length ≤ 8 ∧ Ranked wl rk n ∧ (wl.map (·.2)).Nodup ∧
  ∀ (r : Addr) (H' : Hp) (bs : List (List Nat)) (ps : List Ent) (b1 b2 : Addr), Same H H' → LineV H' r bs ps b1 b2 → Good p w (Reach wl) (List.range n) bs ps → bs.Pairwise (fun X Y => rho p w Y ≤ rho p w X) → Q (.ref r) H'
theorem r_whole_line (D : Df K mg "whole_line" s_whole_line) (T : Bi mg) (R_line : Rdy P w K mg base "line" (2 * 9 + 5) ["works", "wishes", "some"] (sp_line 9)) : Rdy P w K mg base "whole_line" 24 ["works", "wishes"] sp_whole_line := by
  refine rdy D sc_whole_line (fun _ _ _ _ _ _ us hl => match us, hl with | [_, _], _ => rfl) (fun vs H Q E h => ?_) (fun ff cdv A outer s H vs Q E hr h => ?_)
  · obtain ⟨a, wa, c, n, p, w, wl, rk, rfl, _⟩ := h
    rfl
  obtain ⟨a, wa, c, n, p, w, wl, rk, rfl, hW, hwl, w8, hrk, nd, q⟩ := h
  refine ⟨_, (pss_cons (ps_set (i := 2) sc_whole_line.nd rfl (Or.inr rfl) (pe_lc (own := [("a", 3), ("b", 4)]) rfl sc_whole_line.nd (pi_tup (pv 1)) (blkOk_by (N := ["works", "wishes", "seconds", "a", "b", "j"]) (sc := defScope s_whole_line) (by decide +kernel)) (fun _ _ _ _ _ => (pg_tupK K 2 rfl (pgs_cons (pg_name (i := 3) sc_whole_line.nd rfl (Or.inl rfl) (Or.inr rfl)) (pgs_cons (pg_name (i := 4) sc_whole_line.nd rfl (Or.inl rfl) (Or.inr rfl)) pgs_nil)))) (fun _ _ _ _ _ => pts_nil) (fun _ _ _ _ _ => (pv 4))))
    (pss_one (ps_ret (pe_cl R_line (hr.mono (by decide)) (pa_cons (pv 0) (pa_cons (pv 1) (pa_cons (pe_lc (own := [("j", 5)]) rfl sc_whole_line.nd (pi_range1 rfl T.b_range (pa_cons (pe_callB call_len_seq rfl T.b_len PySem.boot_len (pa_cons (pv 0) pa_nil)) pa_nil)) (blkOk_by (N := ["works", "wishes", "seconds", "a", "b", "j"]) (sc := defScope s_whole_line) (by decide +kernel)) (fun _ _ _ _ _ => (pg_name (i := 5) sc_whole_line.nd rfl (Or.inl rfl) (Or.inr rfl))) (fun _ _ _ _ _ => pts_one (pt_cmpR (op_notIn_seqK K) (pv 5) (pv 2) (by rfl))) (fun _ _ _ _ _ => (pv 5))) pa_nil))))))), ?_⟩
  obtain ⟨us, hwa, hus⟩ := id hwl
  have ul : us.length = wl.length := hus.length
  have n8 := hW.n8
  refine ⟨_, rfl, wa, rfl, ⟨_, SqT.of hwa⟩, fun D1 hD1 => ?_⟩
  refine lc_fm walk_tup (fun i => (wl[i]?).map fun e => nv e.2) hD1 (by omega) (fun H' k => SqT.of (k _ _ hwa)) yAt_same (fun i x H0 H' R N hi k y r1 _ => ?_) (fun H1 k1 hl1 => ?_)
  · obtain ⟨e, he, b, rfl, hb⟩ := hus.get' y.2
    exact ⟨_, _, rfl, SqT.of (k _ _ hb), rfl, _, _, rfl, _, _, rfl, rfl, rfl, yes (iteT ⟨_, rfl, r1 _ _ (by rw [he] <;> rfl) (Same.refl _)⟩)⟩
  rw [wsh_snd hus] at hl1
  have ee : wl.map (fun e => nv e.2) = (wl.map (·.2)).map nv := by rw [List.map_map]; rfl
  rw [ee] at hl1
  obtain ⟨vs, hv1, hv2, _⟩ := (hW.kt (KT.same k1)).all
  refine ⟨_, rfl, _, rfl, _, rfl, a, vs, rfl, .inr (SqT.of hv1), (n : Int), by rw [hv2], by omega, by omega, fun D2 hD2 => ?_⟩
  refine lc_fm (walk_range (lo := 0) (n := n)) (fun j => if j ∈ wl.map (·.2) then none else some (nv j)) hD2 (by omega) (fun H' k => trivial) yFn_same (fun i x H0 H' R N hi k y r1 r2 => ?_) (fun H2 k2 hl2 => ?_)
  · obtain ⟨_, ex⟩ := y
    have ei : x = nv i := by rw [ex]; unfold nv; show V.int (0 + (i : Nat)) = _; congr 1; omega
    subst ei
    refine ⟨rfl, ?_⟩
    refine ⟨_, rfl, _, rfl, D1, _, rfl, .inl (SqL.of (k _ _ hl1)), rfl, flat_nv _, _, rfl, ?_⟩
    rw [if_pos rfl, inV_nv]
    by_cases hz : i ∈ wl.map (·.2)
    · rw [decide_eq_true hz]
      exact iteF (r2 (if_pos hz) _ (Same.refl _))
    · rw [decide_eq_false hz]
      exact iteT ⟨_, rfl, r1 _ _ (if_neg hz) (Same.refl _)⟩
  rw [roots_fm] at hl2
  have pm := roots_perm (f := 9) hrk nd (by omega)
  have k12 := k1.trans k2
  refine ⟨a, wa, D2, c, n, p, w, wl, rk, roots wl n, 0, rfl, hW.kt (KT.same k12), hwl.kt (KT.same k12), w8, hrk, hl2, fun j hj => ⟨(roots_mem.mp hj).1, Nat.zero_le _⟩, Nat.zero_le _, by omega, pm.nodup_iff.mpr List.nodup_range, by rw [pm.length_eq, List.length_range]; exact n8, fun r H3 bs ps b1 b2 k3 _ _ lv g srt => ?_⟩
  exact q r H3 bs ps b1 b2 (k12.trans k3) lv (g.toD pm) srt

abbrev s_forest_order : Stmt := top 42
theorem sc_forest_order : FnScope ["works", "wishes", "blocks", "prices", "order", "block"] ["works", "wishes"] (defScope s_forest_order) := ⟨rfl, rfl, rfl, by decide +kernel, rfl, by decide +kernel, by decide +kernel⟩
/-- what forest_order tells: an order at o, prices at t -/
def ForestV (H : Hp) (r : Addr) (o t : Addr) (bs : List (List Nat)) (es : List Ent) : Prop := H r = some (.tup [.ref o, .ref t]) ∧ H o = some (.tup (bs.flatten.map nv)) ∧ ∃ us, H t = some (.tup us) ∧ All2 (EntV H) us es
def sp_forest_order : Sp := fun vs H Q _ => ∃ (a wa : Addr) (c : Int) (n : Nat) (p w : Nat → Int) (wl : List (Nat × Nat)) (rk : Nat → Nat), vs = [.ref a, .ref wa] ∧ Works H a c n p w ∧ Wsh H wa wl ∧ wl.length ≤ 8 ∧ Ranked wl rk n ∧ (wl.map (·.2)).Nodup ∧
  ∀ (r : Addr) (H' : Hp) (o t : Addr) (bs : List (List Nat)) (es : List Ent), Same H H' → ForestV H' r o t bs es → Good p w (Reach wl) (List.range n) bs es → bs.Pairwise (fun X Y => rho p w Y ≤ rho p w X) → Q (.ref r) H'
theorem r_forest_order (D : Df K mg "forest_order" s_forest_order) (T : Bi mg) (R_ask_forest : Rdy P w K mg base "ask_forest" 3 ["works", "wishes"] sp_ask_forest) (R_whole_line : Rdy P w K mg base "whole_line" 24 ["works", "wishes"] sp_whole_line) : Rdy P w K mg base "forest_order" 25 ["works", "wishes"] sp_forest_order := by
  refine rdy D sc_forest_order (fun _ _ _ _ _ _ us hl => match us, hl with | [_, _], _ => rfl) (fun vs H Q E h => ?_) (fun ff cdv A outer s H vs Q E hr h => ?_)
  · obtain ⟨a, wa, c, n, p, w, wl, rk, rfl, _⟩ := h
    rfl
  obtain ⟨a, wa, c, n, p, w, wl, rk, rfl, hW, hwl, w8, hrk, nd, q⟩ := h
  refine ⟨_, (pss_cons (ps_expr (pe_cl R_ask_forest (hr.mono (by decide)) (pa_cons (pv 0) (pa_cons (pv 1) pa_nil))))
    (pss_cons (ps_asg (pe_cl R_whole_line hr (pa_cons (pv 0) (pa_cons (pv 1) pa_nil))) (pg_tup rfl (pgs_cons (pg_name (i := 2) sc_forest_order.nd rfl (Or.inl rfl)) (pgs_cons (pg_name (i := 3) sc_forest_order.nd rfl (Or.inl rfl)) pgs_nil))))
    (pss_cons (ps_set (i := 4) sc_forest_order.nd rfl (Or.inl rfl) (pe_tup pa_nil))
    (pss_cons (ps_for PassesOwn.never rfl (pi_list (pv 2)) (pg_name (i := 5) sc_forest_order.nd rfl (Or.inl rfl))
      (pss_one (ps_set (i := 4) sc_forest_order.nd rfl (Or.inl rfl) (pe_op op_catA (pv 4) (pv 5)))))
    (pss_one (ps_ret (pe_tup (pa_cons (pv 4) (pa_cons (pe_callTy call_tuple_of rfl T.b_tuple (by decide +kernel) (pa_cons (pv 3) pa_nil)) pa_nil))))))))), ?_⟩
  have n8 := hW.n8
  refine ⟨_, rfl, _, rfl, a, wa, c, n, p, w, wl, rfl, hW, hwl, w8, nd, fun H1 k1 => ?_⟩
  refine ⟨_, rfl, _, rfl, a, wa, c, n, p, w, wl, rk, rfl, hW.kt (KT.same k1), hwl.kt (KT.same k1), w8, hrk, nd, fun r H2 bs es b1 b2 k2 lv g srt => ?_⟩
  obtain ⟨hr2, nb, ⟨vs, f1, a1⟩, ps, f2, a2⟩ := lv
  refine ⟨_, _, rfl, SqT.of hr2, rfl, _, _, rfl, _, _, rfl, rfl, ?_⟩
  refine ⟨(by show 0 ≤ sizeLine; decide), fun q0 hq0 => ?_⟩
  have kq : Same H2 (upd H2 q0 (.tup [])) := same_new hq0
  refine ⟨_, rfl, b1, rfl, ⟨_, SqL.of (kq _ _ f1)⟩, ?_⟩
  have gl := g.perm.length_eq
  rw [List.length_range] at gl
  refine for_list (fun i σ H' => Same H2 H' ∧ ∃ (oq : Addr) (x : Option V), H' oq = some (.tup (((bs.take i).flatten).map nv)) ∧ σ = [some (.ref a), some (.ref wa), some (.ref b1), some (.ref b2), some (.ref oq), x])
    ⟨kq, q0, none, upd_same, rfl⟩ (fun i σ H' _ h => SqL.of (h.1 _ _ f1)) (fun i x σ H3 hx h => ?_) (fun σ H3 h => ?_)
  · obtain ⟨k3, oq, x0, ho, rfl⟩ := h
    obtain ⟨X, hX, xq, rfl, hxq⟩ := a1.get' hx
    have eF : (bs.take (i + 1)).flatten = (bs.take i).flatten ++ X := by
      rw [take_snoc hX, List.flatten_append]; simp
    have tf := flat_take_len (T := bs) (k := i + 1)
    rw [eF, List.length_append] at tf
    have hne := g.ne X (List.mem_of_getElem? hX)
    refine ⟨_, rfl, _, rfl, oq, xq, _, _, rfl, rfl, SqT.of ho, SqT.of (k3 _ _ hxq), ?_, fun z => ?_, fun _ z => absurd z (by simpa using hne), fun _ _ p6 hp6 => ?_⟩
    · rw [List.length_map, List.length_map]
      exact Nat.le_of_lt (lst_len (by omega))
    · refine ⟨k3, xq, _, ?_, rfl⟩
      have z' : (bs.take i).flatten = [] := List.map_eq_nil_iff.mp z
      rw [eF, z', List.nil_append]
      exact k3 _ _ hxq
    · refine ⟨k3.trans (same_new hp6), p6, _, ?_, rfl⟩
      rw [upd_same, eF, List.map_append]
  · obtain ⟨k3, oq, x0, ho, rfl⟩ := h
    rw [a1.length, List.take_length] at ho
    refine ⟨_, rfl, _, rfl, b2, ps, rfl, .inl ⟨SqL.of (k3 _ _ f2), fun t4 ht4 => ?_⟩⟩
    have k4 : Same H3 (upd H3 t4 (.tup ps)) := same_new ht4
    refine ⟨(by show 2 ≤ sizeLine; decide), fun p5 hp5 => ?_⟩
    have k5 : Same (upd H3 t4 (.tup ps)) (upd (upd H3 t4 (.tup ps)) p5 (.tup [.ref oq, .ref t4])) := same_new hp5
    refine q p5 _ oq t4 bs es (k1.trans (k2.trans (k3.trans (k4.trans k5)))) ⟨upd_same, k5 _ _ (k4 _ _ ho), ps, k5 _ _ upd_same, a2.imp fun _ _ => EntV.kt (KT.same (k3.trans (k4.trans k5)))⟩ g srt
end
end NW
/-! k67 by hand, 13: the refusal -/
namespace NW
open PySem PySem.Spec PyProof.Rows L2
/-! ### BenchError.__init__(self, ..), read off the class itself -/
/-- what the written part says of the base BenchError, at B -/
structure BaseC (K : PySem.W.Frag) (B : Addr) : Prop where
  rd : PySem.W.readsIn K B (.type "type") = true
  ga : PySem.W.specialIn K (.ref B) "__getattribute__" = some (some (.builtin "type.__getattribute__"))
  at_ : PySem.W.findCls K (.ref B) (.type "type") "__init__" = some (.val (.builtin "ValueError.__init__"))
section
variable {X : Cx} {o e : Expr} {es : List Expr} {to te : TE} {ta : TA} {f : Str} {p p' p1 p2 pos : Pos}
theorem pe_beinit {B : Addr} {pl : Sem Bool} (T : BaseC X.K B) (hg : Gl X "BenchError") (hm : X.mg "BenchError" = some (.ref B)) (ha : PA X (e :: es) ta)
    (hc : eval (.Call (.Attribute (.Name "BenchError" p1) "__init__" p2) (e :: es) [] pos) X.env = (do
      let ov ← eval (.Name "BenchError" p1) X.env
      standAt p2.atName
      let (f, first) ← holding [ov] (getMethod ov "__init__" pl)
      callWith pos f first (backTo pos (starEach (e :: es) X.env)) (backToKw pos (keywordEach [] X.env))) := by rfl)
    (he : starEach (e :: es) X.env = (false, eval e X.env) :: starEach es X.env := by rfl) (hpl : (backTo pos (starEach es X.env)).any (·.1) = false := by rfl) :
    PE X (.Call (.Attribute (.Name "BenchError" p1) "__init__" p2) (e :: es) [] pos) (tVeI X.K ta) := by
  refine ⟨fun pins s σ H Q I h => ?_⟩
  refine PySem.W.methodCall_KW (ld_glob I hg hm ?_) hc
  refine PySem.W.method_cls I.kIn T.ga (PySem.W.cls_value I.kIn T.rd T.at_ (by decide +kernel) ?_)
  show wpAny _ _ (callWith pos (Value.builtin "ValueError.__init__") [] (backTo pos (starEach (e :: es) X.env)) []) _ _ _
  refine PyProof.Rows.callWith_method1 (thn (ha.run pos pins _ σ H _ (I.tok _) h) fun us s1 ⟨vs, H1, I1, r1, a, C, ws, ev, hl, T, ea, q⟩ => ?_) he hpl
  subst ev
  cases r1 with
  | @cons _ u0 _ ur ra rw' =>
    obtain rfl : u0 = Value.ref a := ra
    have hlen : ur.length ≤ sizeLine := by
      rw [← Paired.length rw', sizeLine_eq]
      omega
    exact oinit_ok T I1 ea hlen fun s' J => ⟨.non, H1, J, rfl, q⟩
end
/-! ### isinstance of the caught error, which has its own dict -/
/-- what the class D of the caught error says -/
structure ErrC (K : PySem.W.Frag) (D : Addr) : Prop where
  cl : (PySem.W.clsIn K D).isSome = true
  hg : PySem.W.findIn K (.ref D) "__getattribute__" = some (some (.builtin "BaseException.__getattribute__"))
  hk : PySem.W.findIn K (.ref D) "__getattr__" = some none
  hs : PySem.W.subIn K (.ref D) (.type "BaseException") = some true
  ha : PySem.W.findIn K (.ref D) "__class__" = some (some (.builtin "object.__class__"))
  hn : PySem.W.specialIn K (.builtin "object.__class__") "__get__" = some (some (.builtin "getset_descriptor.__get__"))
  ht : PySem.W.takesIn K (.builtin "object.__class__") = some true
  hm : PySem.W.mroIn K D (.type "object") = some true
def rIsE1 (K : PySem.W.Frag) (D a : Addr) (cls : Value) (d : Option Addr) : List V → Hp → VK → Prop := fun xs H Q => ∃ (c : V) (cv : Value) (b : Bool) (dd : Addr) (fs : List (Str × V)), xs = [.ref a, c] ∧ cls = .ref D ∧ d = some dd ∧ H dd = some (.xd fs) ∧ ClsV c cv ∧ PySem.W.kitOne K (.ref D) cv = some b ∧ Q (.bl b) H
def rIsET (K : PySem.W.Frag) (D a : Addr) (cls : Value) (d : Option Addr) : List V → Hp → VK → Prop := fun xs H Q => ∃ (tp : Addr) (cs : List V) (us : List Value) (b : Bool) (dd : Addr) (fs : List (Str × V)), xs = [.ref a, .ref tp] ∧ cls = .ref D ∧ d = some dd ∧ H dd = some (.xd fs) ∧ H tp = some (.tup cs) ∧ Paired ClsV cs us ∧ PySem.W.kitAny K (.ref D) us = some b ∧ Q (.bl b) H
section
variable {X : Cx} {a D : Addr} {oe : Obj} {cls : Value} {d : Option Addr} {pn : List (Addr × Obj)}
theorem err_at {K : PySem.W.Frag} {pins : List (Addr × Obj)} {σ : L2.St} {H : Hp} {s : Shared} {dd : Addr} {fs : List (Str × V)} (hz : Zc (.ref D) (some dd) oe) (hf : ∃ vs, oe.data = .fields vs) (I : Inv (X.suite a ((a, oe) :: pn)) pins σ H s) (ea : H dd = some (.xd fs)) :
    ∃ od, PySem.W.InstAt s.heap a oe D (some od) := by
  obtain ⟨ha, _⟩ := I.pin (a, oe) (List.mem_append_left _ List.mem_cons_self)
  obtain ⟨vs, hd⟩ := hf
  have hx : ObjOk X.prog X.w H s.heap dd (.xd fs) := I.hok dd _ ea
  obtain ⟨mA, hns, hr⟩ := hx
  obtain ⟨od, ho, hl⟩ := lookIn_ns hns
  exact ⟨od, ha, hz.1, by unfold PySem.W.notCls; rw [hd] <;> rfl, by rw [hz.2]; exact ho⟩
theorem call_isE1 (K : PySem.W.Frag) (C : ErrC K D) (hz : Zc cls d oe) (hf : ∃ vs, oe.data = .fields vs) (hK : X.K = K := by rfl) : CallR (X.suite a ((a, oe) :: pn)) (.builtin "isinstance") (rIsE1 K D a cls d) := by
  subst hK
  intro pins s σ H xs us Q I r h
  obtain ⟨c, cv, b, dd, fs, rfl, rfl, rfl, hd, hcv, e, q⟩ := h
  obtain ⟨u1, u2, rfl, r1, r2⟩ := vals2 r
  obtain rfl : u1 = Value.ref a := r1
  have e2 := hcv.eq r2
  subst e2
  obtain ⟨od, J⟩ := err_at (K := X.K) hz hf I hd
  exact PySem.W.kia_one (PySem.W.kitx_exc C.cl C.hg C.hk C.hs C.ha C.hn C.ht C.hm) I.kIn J e (fun z => nomatch z) fun tk => ⟨.bl b, H, I.kept (t' := tk) fun _ _ z => z, rfl, q⟩
theorem call_isET (K : PySem.W.Frag) (C : ErrC K D) (hz : Zc cls d oe) (hf : ∃ vs, oe.data = .fields vs) (hK : X.K = K := by rfl) : CallR (X.suite a ((a, oe) :: pn)) (.builtin "isinstance") (rIsET K D a cls d) := by
  subst hK
  intro pins s σ H xs us Q I r h
  obtain ⟨tp, cs, ws, b, dd, fs, rfl, rfl, rfl, hd, hT, hcv, e, q⟩ := h
  obtain ⟨u1, u2, rfl, r1, r2⟩ := vals2 r
  obtain rfl : u1 = Value.ref a := r1
  cases (show u2 = Value.ref tp from r2)
  obtain ⟨od, J⟩ := err_at (K := X.K) hz hf I hd
  obtain ⟨_, its, rv, o, h1, h2, n, h3⟩ := (show ObjOk X.prog X.w H s.heap tp (.tup cs) from I.hok tp _ hT)
  have e3 := ClsV.all hcv rv
  subst e3
  obtain ⟨oc, od2, dt, sl⟩ := o
  simp only at h2 h3
  subst h2 h3
  exact PySem.W.kia_tup (PySem.W.kitx_exc C.cl C.hg C.hk C.hs C.ha C.hn C.ht C.hm) I.kIn J h1 e (fun z => nomatch z) fun tk => ⟨.bl b, H, I.kept (t' := tk) fun _ _ z => z, rfl, q⟩
theorem pe_xfK (K : PySem.W.Frag) {e : Expr} {te : TE} {pos : Pos} {n : Str} {C : Addr} (T : XfC K C) (hno : PySem.W.findIn K (.ref C) n = some none)
    (hz : Zc cls d oe) (hf : ∃ vs, oe.data = .fields vs) (he : PE (X.suite a ((a, oe) :: pn)) e te) (hK : X.K = K := by rfl) (hb : attributeBase e n X.env (eval e X.env) = eval e X.env := by rfl) :
    PE (X.suite a ((a, oe) :: pn)) (.Attribute e n pos) (tXf a cls d C n te) := by
  subst hK
  exact pe_xf T hno hz hf he hb
end
/-! ### NoRule -/
section
variable {P : Program} {w : World} {K : PySem.W.Frag} {mg : Str → Option Value} {base : Heap}
abbrev s_init : Stmt := inClass (top 3) 0
theorem sc_init : FnScope ["self", "word"] ["self", "word"] (defScope s_init) := ⟨rfl, rfl, rfl, by decide +kernel, rfl, by decide +kernel, by decide +kernel⟩
/-- all that the text's written part says of the refusals -/
structure ErrT (K : PySem.W.Frag) (mg : Str → Option Value) (B C fI : Addr) (fd : FuncData) : Prop where
  mB : mg "BenchError" = some (.ref B)
  mC : mg "NoRule" = some (.ref C)
  base : BaseC K B
  oex : OexC K C
  err : ErrC K C
  xf : XfC K C
  noW : PySem.W.findIn K (.ref C) "word" = some none
  iC : PySem.W.findIn K (.ref C) "__init__" = some (some (.ref fI))
  tI : PySem.W.typeIn K (.ref fI) = some (.type "function")
  F : Fun K "__init__" "NoRule.__init__" s_init fI fd
  xm : PySem.W.exmOne K (.ref C) (.ref B) = some true
  k1 : PySem.W.kitOne K (.ref C) (.ref C) = some true
  k2 : PySem.W.kitOne K (.ref C) (.type "ValueError") = some true
def sp_init (K : PySem.W.Frag) (C : Addr) : Sp := fun vs H Q _ => ∃ (x : Addr) (v : V), vs = [.ref x, v] ∧ H x = some (exo x C none) ∧ ∀ dx, H dx = none → dx ≠ x → Q .non (upd (upd H dx (exd dx [("word", v)])) x (exo x C (some dx)))
theorem r_init {B C fI : Addr} {fd : FuncData} (T : ErrT K mg B C fI fd) : FnOk P w K mg base CX0 1 fI fd ["self", "word"] (sp_init K C) := by
  refine T.F.ok sc_init (fun vs H Q E h => ?_) (fun cdv A outer s H vs Q E hr h => ?_)
  · obtain ⟨x, v, rfl, _⟩ := h
    rfl
  obtain ⟨x, v, rfl, hx, q⟩ := h
  refine ⟨_, pss_cons (ps_expr (pe_beinit T.base rfl T.mB (pa_cons (pv 0) (pa_cons pe_str pa_nil)))) (pss_one (ps_ost (pv 0) (pv 1))), ?_⟩
  refine ⟨_, rfl, x, C, _, rfl, by simp, T.oex, hx, ?_⟩
  exact ⟨_, rfl, _, rfl, x, C, rfl, T.oex, T.noW, .inl ⟨hx, fun dx hd hn => q dx hd hn⟩⟩
theorem init_binds {B C fI : Addr} {fd : FuncData} (T : ErrT K mg B C fI fd) : Binds K fd ["self", "word"] [] := T.F.binds fun _ _ _ _ _ _ us hl => match us, hl with | [_, _], _ => rfl
/-! ### ask_forest where it refuses -/
def sp_ask_forestX (C : Addr) : Sp := fun vs H Q E => ∃ (a wa : Addr) (c : Int) (n : Nat) (p w : Nat → Int) (wl : List (Nat × Nat)), vs = [.ref a, .ref wa] ∧ Works H a c n p w ∧ Wsh H wa wl ∧ wl.length ≤ 8 ∧ ¬ (wl.map (·.2)).Nodup ∧
  ∀ d H', H d = none → Same H H' → H' d = some (.xd [("word", .str "forest")]) → E (.ref C) (some d) H'
theorem r_ask_forestX {B C fI : Addr} {fd : FuncData} (D : Df K mg "ask_forest" s_ask_forest) (T : Bi mg) (TE : ErrT K mg B C fI fd) (R_ask_ends : Rdy P w K mg base "ask_ends" 2 ["works"] sp_ask_ends) (R_is_forest : Rdy P w K mg base "is_forest" 1 ["many", "wishes"] sp_is_forest) : RdyX (L2.CX P w) P w K mg base "ask_forest" 3 ["works", "wishes"] (sp_ask_forestX C) := by
  refine rdyX D sc_ask_forest (fun _ _ _ _ _ _ us hl => match us, hl with | [_, _], _ => rfl) (fun vs H Q E h => ?_) (fun f cdv A outer s H vs Q E hr h => ?_)
  · obtain ⟨a, wa, c, n, p, w, wl, rfl, _⟩ := h
    rfl
  obtain ⟨a, wa, c, n, p, w, wl, rfl, hW, hwl, w8, nd, q⟩ := h
  refine ⟨_, (pss_cons (ps_expr (pe_cl R_ask_ends (hr.mono (by decide)) (pa_cons (pv 0) pa_nil)))
    (pss_one (ps_if (pt_not (pt_val (pe_cl R_is_forest (hr.mono (by decide)) (pa_cons (pe_callB call_len_seq rfl T.b_len PySem.boot_len (pa_cons (pv 0) pa_nil)) (pa_cons (pv 1) pa_nil))))) (pss_one (ps_raise rfl (takes_of rfl rfl rfl rfl) (pmk_oex TE.oex TE.iC TE.tI (r_init TE) hr (init_binds TE) .nil pass0 rfl TE.mC (pa_cons pe_str pa_nil)))) pss_nil))), ?_⟩
  refine ⟨_, rfl, a, c, n, p, w, rfl, hW, fun H1 k1 => ?_⟩
  obtain ⟨vs, hv1, hv2, _⟩ := (hW.kt (KT.same k1)).all
  refine ⟨_, rfl, a, vs, rfl, .inr (SqT.of hv1), _, rfl, _, wa, wl, rfl, hwl.kt (KT.same k1), w8, fun H2 k2 => ?_⟩
  rw [decide_eq_false nd]
  refine ⟨_, rfl, iteT ?_⟩
  have k12 := k1.trans k2
  refine ⟨by simp, fun x hx => ⟨x, _, rfl, upd_same, fun dx hd hn => ?_⟩⟩
  have hdx : H2 dx = none := by rw [upd_ne hn] at hd; exact hd
  refine ⟨rfl, dx, _, upd_same, by rw [upd_ne hn, upd_same], hdx, ?_⟩
  refine q dx _ (k12.free hdx) (fun b o hb => ?_) upd_same
  have hb2 := k12 _ _ hb
  have b1 : b ≠ dx := ne_of_none hb2 hdx
  have b2 : b ≠ x := ne_of_none hb2 hx
  rw [upd_ne b1, del_ne b2, upd_ne b2, upd_ne b1, upd_ne b2]
  exact hb2
end
end NW
/-! k67 by hand, 14: the refusal caught -/
namespace NW
open PySem PySem.Spec PyProof.Rows L2
section
variable {X : Cx}
theorem pe_clE {x : Str} {k : Nat} {ps : List Str} {sp : Sp} {E : XK} {p pos : Pos} {e : Expr} {es : List Expr} {t : TA} (R : RdyX (L2.CX X.prog X.w) X.prog X.w X.K X.mg X.base x k ps sp) (hr : Room k X.A) (hx : Passes (L2.CX X.prog X.w) X E) (ha : PA X (e :: es) t) (hg : Gl X x := by rfl)
    (hdb : (x == ("__debug__" : Str)) = false := by decide) (he : starEach (e :: es) X.env = (false, eval e X.env) :: starEach es X.env := by rfl) (hpl : (backTo pos (starEach es X.env)).any (·.1) = false := by rfl) :
    PE X (.Call (.Name x p) (e :: es) [] pos) (tCall sp [] E t) := by
  obtain ⟨f, fd, m, F, b, kp⟩ := R
  exact pe_call F hr hg m kp b .nil hx ha hdb he hpl
theorem pe_clS {x : Str} {k : Nat} {ps : List Str} {sp : Sp} {E : L2.St → XK} {p pos : Pos} {e : Expr} {es : List Expr} {t : TA} (R : RdyX (L2.CX X.prog X.w) X.prog X.w X.K X.mg X.base x k ps sp) (hr : Room k X.A) (hx : ∀ σ, PassesAt (L2.CX X.prog X.w) X σ (E σ)) (ha : PA X (e :: es) t) (hg : Gl X x := by rfl)
    (hdb : (x == ("__debug__" : Str)) = false := by decide) (he : starEach (e :: es) X.env = (false, eval e X.env) :: starEach es X.env := by rfl) (hpl : (backTo pos (starEach es X.env)).any (·.1) = false := by rfl) :
    PE X (.Call (.Name x p) (e :: es) [] pos) (tCallS sp E t) := by
  obtain ⟨f, fd, m, F, b, kp⟩ := R
  exact pe_callS F hr hg m kp b hx ha hdb he hpl
end
section
variable {P : Program} {w : World} {K : PySem.W.Frag} {mg : Str → Option Value} {base : Heap}
abbrev s_joined : Stmt := top 41
theorem sc_joined : FnScope ["works", "wishes", "blocks", "prices"] ["works", "wishes"] (defScope s_joined) := ⟨rfl, rfl, rfl, by decide +kernel, rfl, by decide +kernel, by decide +kernel⟩
theorem r_joinedX {C : Addr} (D : Df K mg "joined" s_joined) (R_ask_forest : RdyX (L2.CX P w) P w K mg base "ask_forest" 3 ["works", "wishes"] (sp_ask_forestX C)) : RdyX (L2.CX P w) P w K mg base "joined" 4 ["works", "wishes"] (sp_ask_forestX C) := by
  refine rdyX D sc_joined (fun _ _ _ _ _ _ us hl => match us, hl with | [_, _], _ => rfl) (fun vs H Q E h => ?_) (fun f cdv A outer s H vs Q E hr h => ?_)
  · obtain ⟨a, wa, c, n, p, w, wl, rfl, _⟩ := h
    rfl
  obtain ⟨a, wa, c, n, p, w, wl, rfl, hW, hwl, w8, nd, q⟩ := h
  refine ⟨_, (pss_cons (ps_expr (pe_clE (E := E) R_ask_forest hr (passes_call (takes_of rfl rfl rfl rfl) (fun _ _ _ _ h => h)) (pa_cons (pv 0) (pa_cons (pv 1) pa_nil)))) pss_never), ?_⟩
  exact ⟨_, rfl, _, rfl, a, wa, c, n, p, w, wl, rfl, hW, hwl, w8, nd, q⟩
theorem r_forest_orderX {C : Addr} (D : Df K mg "forest_order" s_forest_order) (R_ask_forest : RdyX (L2.CX P w) P w K mg base "ask_forest" 3 ["works", "wishes"] (sp_ask_forestX C)) : RdyX (L2.CX P w) P w K mg base "forest_order" 4 ["works", "wishes"] (sp_ask_forestX C) := by
  refine rdyX D sc_forest_order (fun _ _ _ _ _ _ us hl => match us, hl with | [_, _], _ => rfl) (fun vs H Q E h => ?_) (fun f cdv A outer s H vs Q E hr h => ?_)
  · obtain ⟨a, wa, c, n, p, w, wl, rfl, _⟩ := h
    rfl
  obtain ⟨a, wa, c, n, p, w, wl, rfl, hW, hwl, w8, nd, q⟩ := h
  refine ⟨_, (pss_cons (ps_expr (pe_clE (E := E) R_ask_forest hr (passes_call (takes_of rfl rfl rfl rfl) (fun _ _ _ _ h => h)) (pa_cons (pv 0) (pa_cons (pv 1) pa_nil)))) pss_never), ?_⟩
  exact ⟨_, rfl, _, rfl, a, wa, c, n, p, w, wl, rfl, hW, hwl, w8, nd, q⟩

/-- the other refusals' classes, as the law names them -/
structure OthT (K : PySem.W.Frag) (mg : Str → Option Value) (C : Addr) (N1 N2 N3 N4 N5 N6 N7 : Addr) : Prop where
  m1 : mg "NoBack" = some (.ref N1)
  m2 : mg "NoPaper" = some (.ref N2)
  m3 : mg "NoRow" = some (.ref N3)
  m4 : mg "NoText" = some (.ref N4)
  m5 : mg "NoWish" = some (.ref N5)
  m6 : mg "NoWork" = some (.ref N6)
  m7 : mg "TooMany" = some (.ref N7)
  ka : PySem.W.kitAny K (.ref C) [.ref N1, .ref N2, .ref N3, .ref N4, .ref N5, .ref N6, .ref N7] = some false
abbrev s_word : Stmt := top 53
theorem sc_word : FnScope ["_law_works_here", "_law_wishes", "_law_way", "_law_found", "_law_told", "e", "_law_strange"] ["_law_works_here", "_law_wishes", "_law_way"] (defScope s_word) := ⟨rfl, rfl, rfl, by decide +kernel, rfl, by decide +kernel, by decide +kernel⟩
def sp_word : Sp := fun vs H Q _ => ∃ (a wa : Addr) (c : Int) (n : Nat) (p w : Nat → Int) (wl : List (Nat × Nat)) (i : Int), vs = [.ref a, .ref wa, .int i] ∧ Works H a c n p w ∧ Wsh H wa wl ∧ wl.length ≤ 8 ∧ ¬ (wl.map (·.2)).Nodup ∧ ∀ H', Same H H' → Q (.str "forest") H'
theorem r_word {B C fI : Addr} {fd : FuncData} {N1 N2 N3 N4 N5 N6 N7 : Addr} (D : Df K mg "_law_word" s_word) (T : Bi mg) (TE : ErrT K mg B C fI fd) (TO : OthT K mg C N1 N2 N3 N4 N5 N6 N7) (R_joined : RdyX (L2.CX P w) P w K mg base "joined" 4 ["works", "wishes"] (sp_ask_forestX C))
    (R_forest_order : RdyX (L2.CX P w) P w K mg base "forest_order" 4 ["works", "wishes"] (sp_ask_forestX C)) : Rdy P w K mg base "_law_word" 5 ["_law_works_here", "_law_wishes", "_law_way"] sp_word := by
  refine rdy D sc_word (fun _ _ _ _ _ _ us hl => match us, hl with | [_, _, _], _ => rfl) (fun vs H Q E h => ?_) (fun f cdv A outer s H vs Q E hr h => ?_)
  · obtain ⟨a, wa, c, n, p, w, wl, i, rfl, _⟩ := h
    rfl
  obtain ⟨a, wa, c, n, p, w, wl, i, rfl, hW, hwl, w8, nd, q⟩ := h
  refine ⟨_, (pss_cons (ps_set (i := 3) sc_word.nd rfl (Or.inl rfl) pe_str)
    (pss_cons (ps_try_as (i := 5) (Wout := fun _ _ _ _ => False) rfl rfl sc_word.nd rfl rfl ⟨rfl, by decide, Or.inl TE.mB⟩ takes0
      (fun W pn xe tk _ => pss_cons (ps_set (i := 4) sc_word.nd rfl (Or.inl rfl) (pe_ifExp (pt_cmpR op_eq (pv 2) pe_int (nomark _)) (pe_clS (E := WE W) R_joined hr (fun σ => passAt tk σ) (pa_cons (pv 0) (pa_cons (pv 1) pa_nil))) (pe_clS (E := WE W) R_forest_order hr (fun σ => passAt tk σ) (pa_cons (pv 0) (pa_cons (pv 1) pa_nil))))) pss_never)
      (fun a oe cls d pn hz hf =>
        pss_cons (ps_set (i := 6) sc_word.nd rfl (Or.inl rfl) (pe_callB (call_isET K TE.err hz hf) rfl T.b_isinstance (by decide +kernel) (pa_cons (pv 5) (pa_cons (pe_tup (pa_cons (pe_glob (v := .ref N1) rfl TO.m1 rfl) (pa_cons (pe_glob (v := .ref N2) rfl TO.m2 rfl) (pa_cons (pe_glob (v := .ref N3) rfl TO.m3 rfl) (pa_cons (pe_glob (v := .ref N4) rfl TO.m4 rfl) (pa_cons (pe_glob (v := .ref N5) rfl TO.m5 rfl) (pa_cons (pe_glob (v := .ref N6) rfl TO.m6 rfl) (pa_cons (pe_glob (v := .ref N7) rfl TO.m7 rfl) pa_nil)))))))) pa_nil))))
        (pss_cons (ps_set (i := 3) sc_word.nd rfl (Or.inl rfl) pe_str)
        (pss_one (ps_if (PW.pt (pw_and (pt_val (pe_callB (call_isE1 K TE.err hz hf) rfl T.b_isinstance (by decide +kernel) (pa_cons (pv 5) (pa_cons (pe_glob (v := .ref C) rfl TE.mC rfl) pa_nil)))) (pw_and (pt_val (pe_callB (call_isE1 K TE.err hz hf) rfl T.b_isinstance (by decide +kernel) (pa_cons (pv 5) (pa_cons (pe_bltn (v := .ty "ValueError") rfl T.b_ValueError (by decide +kernel) rfl) pa_nil)))) (pw_and1 (pt_not (pt_val (pv 6))))))) (pss_one (ps_set (i := 3) sc_word.nd rfl (Or.inl rfl) (pe_xfK K TE.xf TE.noW hz hf (pv 5)))) pss_nil)))))
    (pss_one (ps_ret (pv 3))))), ?_⟩
  refine ⟨_, rfl, rfl, _, rfl, ?_⟩
  refine ite2 (fun _ => ?_) (fun _ => ?_) <;>
  · refine ⟨_, rfl, _, rfl, a, wa, c, n, p, w, wl, rfl, hW, hwl, w8, nd, fun d H1 hd k1 h1 => ?_⟩
    refine ⟨true, TE.xm, fun _ ea hea => ?_, fun z => nomatch z⟩
    refine ⟨_, rfl, (by show 7 ≤ sizeLine; decide), fun tp htp => ?_⟩
    have k2 : Same H1 (upd H1 tp (.tup [.ref N1, .ref N2, .ref N3, .ref N4, .ref N5, .ref N6, .ref N7])) := same_new htp
    have h2 := k2 _ _ h1
    refine ⟨tp, _, _, false, d, _, rfl, rfl, rfl, h2, upd_same, .cons (.own _) (.cons (.own _) (.cons (.own _) (.cons (.own _) (.cons (.own _) (.cons (.own _) (.cons (.own _) .nil)))))), TO.ka, ?_⟩
    refine ⟨_, rfl, _, _, true, d, _, rfl, rfl, rfl, h2, .own _, TE.k1, _, rfl, iteT ?_⟩
    refine ⟨_, rfl, _, _, true, d, _, rfl, rfl, rfl, h2, .ty _, TE.k2, _, rfl, iteT ?_⟩
    refine ⟨_, rfl, _, rfl, iteT ?_⟩
    exact ⟨_, rfl, rfl, rfl, d, _, _, rfl, h2, rfl, _, rfl, q _ (k1.trans k2)⟩
end
end NW
/-! k67 by hand, 15: the law's tape -/
namespace NW
open PySem PySem.Spec PyProof.Rows L2
/-- the tape at t -/
def TapeV (H : Hp) (t l : Addr) : Prop := ∃ (cells : List Int) (i j k : Int), H t = some (.lst [.ref l, .int i, .int j, .int k]) ∧ H l = some (.lst (cells.map V.int)) ∧ cells.length ≤ 63 ∧ 0 ≤ i ∧ 0 ≤ j ∧ 0 ≤ k
theorem TapeV.same {H H' : Hp} {t l : Addr} (k : Same H H') : TapeV H t l → TapeV H' t l := fun ⟨cells, i, j, m, h1, h2, h3⟩ => ⟨cells, i, j, m, k _ _ h1, k _ _ h2, h3⟩
theorem TapeV.kt {H H' : Hp} {t l : Addr} (h : TapeV H t l) (b : But t H H') : KT H H' := by
  obtain ⟨cells, i, j, m, h1, _⟩ := h
  exact b.kt h1
theorem TapeV.ne {H : Hp} {t l x : Addr} (h : TapeV H t l) (n : H x = none) : x ≠ t := by
  obtain ⟨cells, i, j, m, h1, _⟩ := h
  exact fun z => by rw [z, h1] at n; cases n
theorem TapeV.ne2 {H : Hp} {t l x : Addr} (h : TapeV H t l) (n : H x = none) : x ≠ l := by
  obtain ⟨cells, i, j, m, _, h1, _⟩ := h
  exact fun z => by rw [z, h1] at n; cases n
theorem TapeV.upd {H : Hp} {t l x : Addr} {o : HO} (h : TapeV H t l) (n1 : x ≠ t) (n2 : x ≠ l) : TapeV (L2.upd H x o) t l := by
  obtain ⟨cells, i, j, m, h1, h2, h3⟩ := h
  exact ⟨cells, i, j, m, by rw [upd_ne (Ne.symm n1)]; exact h1, by rw [upd_ne (Ne.symm n2)]; exact h2, h3⟩
theorem dpAll_ints {K : PySem.W.Frag} {H : Hp} : ∀ cells : List Int, DpAll K H (cells.map V.int) (cells.map PyData.int)
  | [] => .nil
  | x :: r => .cons (.int x) (dpAll_ints r)
theorem ne_nil_eqv {cells : List Int} : PyData.eqv (.list (cells.map PyData.int)) (.list []) = cells.isEmpty := by
  cases cells <;> rfl
section
variable {P : Program} {w : World} {K : PySem.W.Frag} {mg : Str → Option Value} {base : Heap}
abbrev s_tape : Stmt := top 44
theorem sc_tape : FnScope ["_law_script"] ["_law_script"] (defScope s_tape) := ⟨rfl, rfl, rfl, by decide +kernel, rfl, by decide +kernel, by decide +kernel⟩
def sp_tape (K : PySem.W.Frag) : Sp := fun vs H Q _ => ∃ (a : Addr) (ns : List Int), vs = [.ref a] ∧ SqL K H a (ns.map V.int) ∧ ∀ (r l : Addr) (H' : Hp), Same H H' → H r = none → TapeV H' r l → Q (.ref r) H'
theorem cut63 (xs : List V) : (cutV xs none (some 63)).length ≤ 63 := by
  unfold cutV
  have h1 : HT.sIx xs.length 0 none = 0 := rfl
  have h2 : HT.sIx xs.length xs.length (some 63) = min 63 xs.length := HT.sIx_nat xs.length xs.length 63
  rw [h1, h2, List.length_take]; omega
theorem cut_ints (ns : List Int) (lo hi : Option Int) : ∃ ms : List Int, cutV (ns.map V.int) lo hi = ms.map V.int := by
  unfold cutV
  exact ⟨(ns.drop _).take _, by rw [List.map_take, List.map_drop]⟩
theorem r_tape (D : Df K mg "_law_tape" s_tape) (T : Bi mg) : Rdy P w K mg base "_law_tape" 1 ["_law_script"] (sp_tape K) := by
  refine rdy D sc_tape (fun _ _ _ _ _ _ us hl => match us, hl with | [_], _ => rfl) (fun vs H Q E h => ?_) (fun f cdv A outer s H vs Q E hr h => ?_)
  · obtain ⟨a, ns, rfl, _⟩ := h
    rfl
  obtain ⟨a, ns, rfl, hS, q⟩ := h
  refine ⟨_, (pss_one (ps_ret (pe_lst (pa_cons (pe_callTy call_list_of rfl T.b_list (by decide +kernel) (pa_cons (pe_slice sl_list (pv 0) po_none (po_some pe_int)) pa_nil)) (pa_cons pe_int (pa_cons pe_int (pa_cons pe_int pa_nil))))))), ?_⟩
  obtain ⟨ms, hms⟩ := cut_ints ns none (some 63)
  have hlen := cut63 (ns.map V.int)
  rw [hms, List.length_map] at hlen
  refine ⟨_, rfl, _, rfl, a, _, rfl, hS, fun p hp => ?_⟩
  refine ⟨p, _, rfl, .inl (SqL.of upd_same), fun l hl => ?_⟩
  refine ⟨(by show 4 ≤ sizeLine; decide), fun r hr' => ?_⟩
  have k1 : Same H (upd H p (.lst (cutV (ns.map V.int) none (some 63)))) := same_new hp
  have k2 : Same _ (upd (upd H p (.lst (cutV (ns.map V.int) none (some 63)))) l (.lst (cutV (ns.map V.int) none (some 63)))) := same_new hl
  have k12 := k1.trans k2
  refine q r l _ (k12.trans (same_new hr')) (k12.free hr') ⟨ms, 0, 0, 0, upd_same, ?_, hlen, by decide, by decide, by decide⟩
  rw [upd_ne (fun z => by rw [← z, upd_same] at hr'; cases hr'), upd_same, hms]

abbrev s_pick : Stmt := top 45
theorem sc_pick : FnScope ["_law_tape_here", "_law_many", "_law_found", "_law_at", "_law_cell", "_law_mixed"] ["_law_tape_here", "_law_many"] (defScope s_pick) := ⟨rfl, rfl, rfl, by decide +kernel, rfl, by decide +kernel, by decide +kernel⟩
def sp_pick : Sp := fun vs H Q _ => ∃ (t l : Addr) (m : Int), vs = [.ref t, .int m] ∧ TapeV H t l ∧ 0 < m ∧ m ≤ 1000001 ∧ ∀ (r : Int) (H' : Hp), 0 ≤ r → r < m → But t H H' → TapeV H' t l → Q (.int r) H'
theorem lay_ints : ∀ cells : List Int, PyData.canLayAll0 (cells.map PyData.int) = true
  | [] => rfl
  | x :: r => by
    simp only [List.map_cons, PyData.canLayAll0, PyData.canLay0, lay_ints r]; rfl
theorem depth_ints : ∀ cells : List Int, PyData.depthAll (cells.map PyData.int) ≤ 1
  | [] => by decide
  | x :: r => by
    have := depth_ints r
    simp only [List.map_cons, PyData.depthAll, PyData.depth]; omega
theorem shaped_ints (cells : List Int) : SeqAt.shaped (.list (cells.map PyData.int)) = true := by
  unfold SeqAt.shaped
  have h1 : PyData.canLay0 (.list (cells.map PyData.int)) = true := by simp only [PyData.canLay0]; exact lay_ints cells
  have h2 : PyData.depth (.list (cells.map PyData.int)) ≤ 64 := by
    have := depth_ints cells
    simp only [PyData.depth]; omega
  rw [h1, decide_eq_true h2]; rfl
theorem r_pick (D : Df K mg "_law_pick" s_pick) (T : Bi mg) : Rdy P w K mg base "_law_pick" 1 ["_law_tape_here", "_law_many"] sp_pick := by
  refine rdy D sc_pick (fun _ _ _ _ _ _ us hl => match us, hl with | [_, _], _ => rfl) (fun vs H Q E h => ?_) (fun f cdv A outer s H vs Q E hr h => ?_)
  · obtain ⟨t, l, m, rfl, _⟩ := h
    rfl
  obtain ⟨t, l, m, rfl, ⟨cells, i, j, k, ht, hl, h63, hi, hj, hk⟩, m0, mb, q⟩ := h
  refine ⟨_, (pss_cons (ps_asg (pe_op op_add (pe_ix ix_list (pv 0) pe_int (fun _ _ => rfl)) pe_int) (pg_sub (pv 0) pe_int set_list))
    (pss_cons (ps_if (pt_cmpR op_gt (pe_ix ix_list (pv 0) pe_int (fun _ _ => rfl)) pe_int (nomark _)) (pss_cons (ps_set (i := 2) sc_pick.nd rfl (Or.inl rfl) (pe_op op_mod (pe_ix ix_list (pv 0) pe_int (fun _ _ => rfl)) (pv 1)))
      (pss_cons (ps_asg (pe_op op_fdiv (pe_ix ix_list (pv 0) pe_int (fun _ _ => rfl)) (pv 1)) (pg_sub (pv 0) pe_int set_list))
      (pss_one (ps_ret (pv 2))))) pss_nil)
    (pss_cons (ps_set (i := 3) sc_pick.nd rfl (Or.inl rfl) (pe_ix ix_list (pv 0) pe_int (fun _ _ => rfl)))
    (pss_cons (ps_asg (pe_op op_add (pv 3) pe_int) (pg_sub (pv 0) pe_int set_list))
    (pss_cons (ps_set (i := 4) sc_pick.nd rfl (Or.inl rfl) (pe_ifExp (pt_cmpR (op_neD hr.units) (pe_ix ix_list (pv 0) pe_int (fun _ _ => rfl)) (pe_lst pa_nil) (nomark _)) (pe_ix ix_list (pe_ix ix_list (pv 0) pe_int (fun _ _ => rfl)) (pe_op op_mod (pv 3) (pe_callB call_len_seq rfl T.b_len PySem.boot_len (pa_cons (pe_ix ix_list (pv 0) pe_int (fun _ _ => rfl)) pa_nil))) (fun _ _ => rfl)) pe_int))
    (pss_cons (ps_if (PW.pt (pw_and (pt_cmpR op_ge (pv 4) (pe_op op_pow pe_int pe_int) (nomark _)) (pw_and1 (pt_cmpR op_lt (pv 3) (pe_callB call_len_seq rfl T.b_len PySem.boot_len (pa_cons (pe_ix ix_list (pv 0) pe_int (fun _ _ => rfl)) pa_nil)) (nomark _))))) (pss_cons (ps_asg (pe_op op_fdiv (pv 4) (pv 1)) (pg_sub (pv 0) pe_int set_list))
      (pss_one (ps_ret (pe_op op_mod (pv 4) (pv 1))))) pss_nil)
    (pss_cons (ps_set (i := 5) sc_pick.nd rfl (Or.inl rfl) (pe_op op_mod (pe_op op_add (pe_op op_add (pe_op op_mod (pv 4) pe_int) (pe_op op_mul pe_int (pe_ix ix_list (pv 0) pe_int (fun _ _ => rfl)))) pe_int) pe_int))
    (pss_cons (ps_set (i := 5) sc_pick.nd rfl (Or.inl rfl) (pe_op op_mod (pe_op op_add (pe_op op_add (pe_op op_mul (pv 5) (pv 5)) (pe_op op_mul pe_int (pe_ix ix_list (pv 0) pe_int (fun _ _ => rfl)))) pe_int) pe_int))
    (pss_cons (ps_set (i := 5) sc_pick.nd rfl (Or.inl rfl) (pe_op op_mod (pe_op op_add (pe_op op_add (pe_op op_mul (pv 5) (pv 5)) (pe_op op_mul pe_int (pv 5))) pe_int) pe_int))
    (pss_one (ps_ret (pe_op op_mod (pe_op op_fdiv (pv 5) pe_int) (pv 1))))))))))))), ?_⟩
  have tl : t ≠ l := fun z => by
    rw [z, hl] at ht
    have e := Option.some.inj ht
    cases cells with
    | nil => cases e
    | cons x r =>
      injection e with e
      injection e with e1 e2
      cases e1
  have mc : CDiv i m := ⟨m0, by omega⟩
  have rm : ∀ x : Int, 0 ≤ x % m ∧ x % m < m := fun x => ⟨Int.emod_nonneg x (by omega), Int.emod_lt_of_pos x m0⟩
  refine ⟨_, rfl, _, _, _, _, rfl, rfl, SqL.of ht, atI_nat (j := 3) rfl, _, _, rfl, rfl, _, rfl, t, _, _, 3, rfl, rfl, ht, rfl, ?_⟩
  generalize hH1 : upd H t (.lst ([.ref l, .int i, .int j, .int k].set 3 (.int (k + 1)))) = H1
  have ht1 : H1 t = some (.lst [.ref l, .int i, .int j, .int (k + 1)]) := by rw [← hH1, upd_same] <;> rfl
  have hl1 : H1 l = some (.lst (cells.map V.int)) := by rw [← hH1, upd_ne (Ne.symm tl)]; exact hl
  have b1 : But t H H1 := by rw [← hH1]; exact But.upd
  refine ⟨_, rfl, _, _, _, _, rfl, rfl, SqL.of ht1, atI_nat (j := 2) rfl, _, _, rfl, rfl, _, rfl, ?_⟩
  refine ite2 (fun c1 => ?_) (fun c1 => ?_)
  · refine ⟨_, rfl, _, _, _, _, rfl, rfl, SqL.of ht1, atI_nat (j := 2) rfl, _, rfl, _, _, rfl, rfl, m0, ?_⟩
    refine ⟨_, rfl, _, _, _, _, rfl, rfl, SqL.of ht1, atI_nat (j := 2) rfl, _, rfl, _, _, rfl, rfl, mc, _, rfl, t, _, _, 2, rfl, rfl, ht1, rfl, ?_⟩
    refine ⟨_, rfl, q _ _ (rm j).1 (rm j).2 (b1.trans But.upd) ⟨cells, i, j / m, k + 1, by rw [upd_same] <;> rfl, by rw [upd_ne (Ne.symm tl)]; exact hl1, h63, hi, Int.ediv_nonneg hj (by omega), by omega⟩⟩
  · refine ⟨_, rfl, _, _, _, _, rfl, rfl, SqL.of ht1, atI_nat (j := 1) rfl, ?_⟩
    refine ⟨_, rfl, _, _, rfl, rfl, _, rfl, t, _, _, 1, rfl, rfl, ht1, rfl, ?_⟩
    generalize hH2 : upd H1 t (.lst ([.ref l, .int i, .int j, .int (k + 1)].set 1 (.int (i + 1)))) = H2
    have ht2 : H2 t = some (.lst [.ref l, .int (i + 1), .int j, .int (k + 1)]) := by rw [← hH2, upd_same] <;> rfl
    have hl2 : H2 l = some (.lst (cells.map V.int)) := by rw [← hH2, upd_ne (Ne.symm tl)]; exact hl1
    have b2 : But t H H2 := b1.trans (by rw [← hH2]; exact But.upd)
    -- what follows the cell
    refine ⟨_, rfl, _, _, _, _, rfl, rfl, SqL.of ht2, atI_nat (j := 0) rfl, (by show 0 ≤ sizeLine; decide), fun e0 he0 => ?_⟩
    generalize hH3 : upd H2 e0 (.lst []) = H3
    have k3 : Same H2 H3 := by rw [← hH3]; exact same_new he0
    have he3 : H3 e0 = some (.lst []) := by rw [← hH3, upd_same]
    have ht3 := k3 _ _ ht2
    have hl3 := k3 _ _ hl2
    have b3 : But t H H3 := b2.trans (But.same k3)
    refine ⟨.list (cells.map PyData.int), .list [], .lst (SqL.of hl3) (dpAll_ints cells), .lst (SqL.of he3) .nil, shaped_ints cells, shaped_ints [], _, rfl, ?_⟩
    rw [ne_nil_eqv]
    -- the rest, whatever the cell
    have rest : ∀ cell : Int, tSeq (tIfS (tAnd (tTest (tOp (rI0 fun i j => V.bl (decide (i ≥ j))) (tVar 4) (tOp (rI CPow fun i j => V.int (i ^ j.toNat)) (tC (V.int 10)) (tC (V.int 18))))) (tTest (tOp (rI0 fun i j => V.bl (decide (i < j))) (tVar 3) (tCB (fun xs H Q => ∃ p ys, xs = [.ref p] ∧ (SqL K H p ys ∨ SqT K H p ys) ∧ Q (.int ys.length) H) (tCons (tOp (rIxL K) (tVar 0) (tC (V.int 0))) tNil)))))
          (tSeq (tAsg (tOp (rI CDiv fun i j => V.int (i / j)) (tVar 4) (tVar 1)) (gSub (tVar 0) (tC (V.int 2)) rSetL)) (tRet (tOp (rI (fun _ j => 0 < j) fun i j => V.int (i % j)) (tVar 4) (tVar 1)))) tNext)
        (tSeq (tAsg (tOp (rI (fun _ j => 0 < j) fun i j => V.int (i % j)) (tOp (rI0 fun i j => V.int (i + j)) (tOp (rI0 fun i j => V.int (i + j)) (tOp (rI (fun _ j => 0 < j) fun i j => V.int (i % j)) (tVar 4) (tC (V.int 2147483647))) (tOp (rI CMul fun i j => V.int (i * j)) (tC (V.int 40503)) (tOp (rIxL K) (tVar 0) (tC (V.int 3))))) (tC (V.int 11))) (tC (V.int 2147483629))) (gName 5))
          (tSeq (tAsg (tOp (rI (fun _ j => 0 < j) fun i j => V.int (i % j)) (tOp (rI0 fun i j => V.int (i + j)) (tOp (rI0 fun i j => V.int (i + j)) (tOp (rI CMul fun i j => V.int (i * j)) (tVar 5) (tVar 5)) (tOp (rI CMul fun i j => V.int (i * j)) (tC (V.int 25717)) (tOp (rIxL K) (tVar 0) (tC (V.int 3))))) (tC (V.int 3))) (tC (V.int 2147483587))) (gName 5))
            (tSeq (tAsg (tOp (rI (fun _ j => 0 < j) fun i j => V.int (i % j)) (tOp (rI0 fun i j => V.int (i + j)) (tOp (rI0 fun i j => V.int (i + j)) (tOp (rI CMul fun i j => V.int (i * j)) (tVar 5) (tVar 5)) (tOp (rI CMul fun i j => V.int (i * j)) (tC (V.int 16807)) (tVar 5))) (tC (V.int 1))) (tC (V.int 2147483579))) (gName 5))
              (tRet (tOp (rI (fun _ j => 0 < j) fun i j => V.int (i % j)) (tOp (rI CDiv fun i j => V.int (i / j)) (tVar 5) (tC (V.int 256))) (tVar 1))))))
        { nx := fun _ H' => Q .non H', rt := Q } [some (.ref t), some (.int m), none, some (.int i), some (.int cell), none] H3 := fun cell => by
      have mc' : ∀ x, CDiv x m := fun x => ⟨m0, by omega⟩
      refine ⟨_, rfl, _, _, rfl, rfl, ⟨by decide, by decide, by decide⟩, _, _, rfl, rfl, _, rfl, ?_⟩
      have fin : tSeq (tAsg (tOp (rI (fun _ j => 0 < j) fun i j => V.int (i % j)) (tOp (rI0 fun i j => V.int (i + j)) (tOp (rI0 fun i j => V.int (i + j)) (tOp (rI (fun _ j => 0 < j) fun i j => V.int (i % j)) (tVar 4) (tC (V.int 2147483647))) (tOp (rI CMul fun i j => V.int (i * j)) (tC (V.int 40503)) (tOp (rIxL K) (tVar 0) (tC (V.int 3))))) (tC (V.int 11))) (tC (V.int 2147483629))) (gName 5))
          (tSeq (tAsg (tOp (rI (fun _ j => 0 < j) fun i j => V.int (i % j)) (tOp (rI0 fun i j => V.int (i + j)) (tOp (rI0 fun i j => V.int (i + j)) (tOp (rI CMul fun i j => V.int (i * j)) (tVar 5) (tVar 5)) (tOp (rI CMul fun i j => V.int (i * j)) (tC (V.int 25717)) (tOp (rIxL K) (tVar 0) (tC (V.int 3))))) (tC (V.int 3))) (tC (V.int 2147483587))) (gName 5))
            (tSeq (tAsg (tOp (rI (fun _ j => 0 < j) fun i j => V.int (i % j)) (tOp (rI0 fun i j => V.int (i + j)) (tOp (rI0 fun i j => V.int (i + j)) (tOp (rI CMul fun i j => V.int (i * j)) (tVar 5) (tVar 5)) (tOp (rI CMul fun i j => V.int (i * j)) (tC (V.int 16807)) (tVar 5))) (tC (V.int 1))) (tC (V.int 2147483579))) (gName 5))
              (tRet (tOp (rI (fun _ j => 0 < j) fun i j => V.int (i % j)) (tOp (rI CDiv fun i j => V.int (i / j)) (tVar 5) (tC (V.int 256))) (tVar 1)))))
          { nx := fun _ H' => Q .non H', rt := Q } [some (.ref t), some (.int m), none, some (.int i), some (.int cell), none] H3 := by
        refine ⟨_, rfl, _, _, rfl, rfl, (by show (0 : Int) < 2147483647; decide), _, rfl, _, _, _, _, rfl, rfl, SqL.of ht3, atI_nat (j := 3) rfl, _, _, rfl, rfl, .inl ⟨by decide, by decide⟩, _, _, rfl, rfl, _, _, rfl, rfl, _, _, rfl, rfl, (by show (0 : Int) < 2147483629; decide), ?_⟩
        generalize hx1 : (cell % 2147483647 + 40503 * (k + 1) + 11) % 2147483629 = x1
        have x10 : 0 ≤ x1 ∧ x1 < 2147483629 := by omega
        refine ⟨_, rfl, _, rfl, _, _, rfl, rfl, .inl ⟨by omega, by omega⟩, _, rfl, _, _, _, _, rfl, rfl, SqL.of ht3, atI_nat (j := 3) rfl, _, _, rfl, rfl, .inl ⟨by decide, by decide⟩, _, _, rfl, rfl, _, _, rfl, rfl, _, _, rfl, rfl, (by show (0 : Int) < 2147483587; decide), ?_⟩
        generalize hx2 : (x1 * x1 + 25717 * (k + 1) + 3) % 2147483587 = x2
        have x20 : 0 ≤ x2 ∧ x2 < 2147483587 := by
          have := Int.emod_nonneg (x1 * x1 + 25717 * (k + 1) + 3) (show (2147483587 : Int) ≠ 0 by decide)
          have := Int.emod_lt_of_pos (x1 * x1 + 25717 * (k + 1) + 3) (show (0 : Int) < 2147483587 by decide)
          omega
        refine ⟨_, rfl, _, rfl, _, _, rfl, rfl, .inl ⟨by omega, by omega⟩, _, rfl, _, _, rfl, rfl, .inl ⟨by decide, by decide⟩, _, _, rfl, rfl, _, _, rfl, rfl, _, _, rfl, rfl, (by show (0 : Int) < 2147483579; decide), ?_⟩
        refine ⟨_, rfl, _, _, rfl, rfl, ⟨by decide, by decide⟩, _, rfl, _, _, rfl, rfl, m0, ?_⟩
        exact q _ _ (rm _).1 (rm _).2 b3 ⟨cells, i + 1, j, k + 1, ht3, hl3, h63, by omega, hj, by omega⟩
      refine ite2 (fun c2 => ?_) (fun c2 => ?_)
      · refine ⟨_, rfl, _, rfl, _, _, _, _, rfl, rfl, SqL.of ht3, atI_nat (j := 0) rfl, l, _, rfl, .inl (SqL.of hl3), _, _, rfl, rfl, _, rfl, ?_⟩
        refine ite2 (fun c3 => ?_) (fun c3 => ?_)
        · have cp : 0 ≤ cell := by
            have := of_decide_eq_true c2
            have e : (10 : Int) ^ (18 : Int).toNat = 1000000000000000000 := by decide
            omega
          refine ⟨_, rfl, _, rfl, _, _, rfl, rfl, mc' _, _, rfl, t, _, _, 2, rfl, rfl, ht3, rfl, ?_⟩
          refine ⟨_, rfl, _, rfl, _, _, rfl, rfl, m0, ?_⟩
          exact q _ _ (rm cell).1 (rm cell).2 (b3.trans But.upd) ⟨cells, i + 1, cell / m, k + 1, by rw [upd_same] <;> rfl, by rw [upd_ne (Ne.symm tl)]; exact hl3, h63, by omega, Int.ediv_nonneg cp (by omega), by omega⟩
        · exact fin
      · exact iteF fin
    cases cells with
    | nil => exact iteF (rest 6)
    | cons x0 r0 =>
      refine iteT ?_
      refine ⟨_, rfl, _, _, _, _, rfl, rfl, SqL.of ht3, atI_nat (j := 0) rfl, _, rfl, _, rfl, _, _, _, _, rfl, rfl, SqL.of ht3, atI_nat (j := 0) rfl, l, _, rfl, .inl (SqL.of hl3), _, _, rfl, rfl, ?_, ?_⟩
      · show (0 : Int) < (((x0 :: r0).map V.int).length : Nat)
        rw [List.length_map, List.length_cons]; omega
      · have hlen : ((x0 :: r0).map V.int).length = (x0 :: r0).length := List.length_map _
        have hlt := Int.emod_lt_of_pos i (show (0 : Int) < (((x0 :: r0).map V.int).length : Nat) by rw [List.length_map, List.length_cons]; omega)
        have hge := Int.emod_nonneg i (show ((((x0 :: r0).map V.int).length : Nat) : Int) ≠ 0 by rw [List.length_map, List.length_cons]; omega)
        have hix : (i % (((x0 :: r0).map V.int).length : Nat)).toNat < (x0 :: r0).length := by omega
        refine ⟨_, _, _, _, rfl, rfl, SqL.of hl3, at_of (j := (i % (((x0 :: r0).map V.int).length : Nat)).toNat) (by omega) (by rw [List.getElem?_map, List.getElem?_eq_getElem hix] <;> rfl), rest _⟩
end
end NW
/-! k67 by hand, 16: the law's works -/
namespace NW
open PySem PySem.Spec PyProof.Rows L2
/-- a statement, and what holds behind it on each way -/
def tCutW (t u : TS) : TS := fun D σ H => ∃ W : L2.St → Hp → Prop, t { D with nx := W } σ H ∧ ∀ σ' H', W σ' H' → u D σ' H'
theorem pss_cutW {X : Cx} {st : Stmt} {rest : List Stmt} {t u : TS} (h1 : PS X st t) (h2 : PSs X rest u) : PSs X (st :: rest) (tCutW t u) := by
  refine ⟨fun pins s σ H D I h => ?_⟩
  obtain ⟨W, hm, hu⟩ := h
  refine wpAny_execs_cons (thn (h1.run pins s σ H { D with nx := W } I hm) fun f s1 q => ?_)
  cases f with
  | next =>
    obtain ⟨σ', H', I', q⟩ := q
    exact h2.run pins s1 σ' H' D I' (hu σ' H' q)
  | ret v => exact q
  | brk => exact q
  | cont => exact q
/-- a work as a value -/
def WkV (H : Hp) (c : Int) (v : V) (x : Int × Int) : Prop := ∃ b q, v = .ref b ∧ H b = some (.tup [.int x.1, .int c, .ref q]) ∧ H q = some (.tup [.str "ends", .int x.2])
theorem WkV.kt {H H' : Hp} {c : Int} {v : V} {x : Int × Int} (k : KT H H') : WkV H c v x → WkV H' c v x := fun ⟨b, q, e, h1, h2⟩ => ⟨b, q, e, k _ _ h1, k _ _ h2⟩
structure Menu (long heavy low : Int) : Prop where
  l1 : 1 ≤ long
  h1 : 1 ≤ heavy
  w0 : 0 ≤ low
  l : long + low ≤ 1000000
  h : heavy + low ≤ 1000001
def Wk1 (x : Int × Int) : Prop := (1 ≤ x.1 ∧ x.1 ≤ 1000000) ∧ (0 ≤ x.2 ∧ x.2 ≤ 1000000)
section
variable {P : Program} {w : World} {K : PySem.W.Frag} {mg : Str → Option Value} {base : Heap}
abbrev s_works : Stmt := top 46
theorem sc_works : FnScope ["_law_tape_here", "_law_many", "_law_long", "_law_heavy", "_law_low_here", "_law_coming", "_law_found", "_law_j", "_law_length", "_law_weight", "_law_one", "_law_small", "_law_by"] ["_law_tape_here", "_law_many"] (defScope s_works) := ⟨rfl, rfl, rfl, by decide +kernel, rfl, by decide +kernel, by decide +kernel⟩
def sp_works : Sp := fun vs H Q _ => ∃ (t tl : Addr) (n : Nat), vs = [.ref t, nv n] ∧ TapeV H t tl ∧ 1 ≤ n ∧ n ≤ 8 ∧ ∀ (r : Addr) (H' : Hp) (c : Int) (p w : Nat → Int), But t H H' → TapeV H' t tl → Works H' r c n p w → Q (.ref r) H'
theorem works_of {H : Hp} {r : Addr} {c : Int} {us : List V} {xs : List (Int × Int)} {n : Nat} (h : H r = some (.tup us)) (a : All2 (WkV H c) us xs) (hx : ∀ x ∈ xs, Wk1 x) (hn : xs.length = n) (n1 : 1 ≤ n) (n8 : n ≤ 8) (hc : 0 ≤ c ∧ c ≤ 60) : Works H r c n (fun j => (xs.getD j (1, 0)).1) (fun j => (xs.getD j (1, 0)).2) := by
  have all : ∀ j, Wk1 (xs.getD j (1, 0)) := fun j => by
    rw [List.getD_eq_getElem?_getD]
    cases e : xs[j]? with
    | none => exact ⟨by decide, by decide⟩
    | some x => exact hx x (List.mem_of_getElem? e)
  refine ⟨⟨us, h, by rw [a.length, hn], fun j hj => ?_⟩, n1, n8, fun j => (all j).1, fun j => (all j).2, hc⟩
  have e : xs[j]? = some xs[j] := List.getElem?_eq_getElem (by omega)
  obtain ⟨v, hv, b, q, rfl, h1, h2⟩ := a.get e
  have ed : xs.getD j (1, 0) = xs[j] := by rw [List.getD_eq_getElem?_getD, e]; rfl
  rw [ed]
  exact ⟨b, q, hv, h1, h2⟩
theorem r_works (D : Df K mg "_law_works" s_works) (T : Bi mg) (R_law_pick : Rdy P w K mg base "_law_pick" 1 ["_law_tape_here", "_law_many"] sp_pick) : Rdy P w K mg base "_law_works" 2 ["_law_tape_here", "_law_many"] sp_works := by
  refine rdy D sc_works (fun _ _ _ _ _ _ us hl => match us, hl with | [_, _], _ => rfl) (fun vs H Q E h => ?_) (fun f cdv A outer s H vs Q E hr h => ?_)
  · obtain ⟨t, tl, n, rfl, _⟩ := h
    rfl
  obtain ⟨t, tl, n, rfl, hT, n1, n8, q⟩ := h
  refine ⟨_, (pss_cons (ps_asg (pe_ix ix_list (pe_lst (pa_cons (pe_tup (pa_cons pe_int (pa_cons pe_int (pa_cons pe_int pa_nil)))) (pa_cons (pe_tup (pa_cons pe_int (pa_cons pe_int (pa_cons pe_int pa_nil)))) (pa_cons (pe_tup (pa_cons pe_int (pa_cons pe_int (pa_cons pe_int pa_nil)))) (pa_cons (pe_tup (pa_cons pe_int (pa_cons pe_int (pa_cons pe_int pa_nil)))) pa_nil))))) (pe_cl R_law_pick hr (pa_cons (pv 0) (pa_cons pe_int pa_nil))) (fun _ _ => rfl)) (pg_tup rfl (pgs_cons (pg_name (i := 2) sc_works.nd rfl (Or.inl rfl)) (pgs_cons (pg_name (i := 3) sc_works.nd rfl (Or.inl rfl)) (pgs_cons (pg_name (i := 4) sc_works.nd rfl (Or.inl rfl)) pgs_nil)))))
    (pss_cutW (ps_if (PW.pt (pw_and (pt_cmpR op_eq (pv 2) pe_int (nomark _)) (pw_and1 (pt_cmpR op_eq (pe_cl R_law_pick hr (pa_cons (pv 0) (pa_cons pe_int pa_nil))) pe_int (nomark _))))) (pss_one (ps_asg (pe_tup (pa_cons pe_int (pa_cons pe_int (pa_cons pe_int pa_nil)))) (pg_tup rfl (pgs_cons (pg_name (i := 2) sc_works.nd rfl (Or.inl rfl)) (pgs_cons (pg_name (i := 3) sc_works.nd rfl (Or.inl rfl)) (pgs_cons (pg_name (i := 4) sc_works.nd rfl (Or.inl rfl)) pgs_nil)))))) pss_nil)
    (pss_cons (ps_set (i := 5) sc_works.nd rfl (Or.inl rfl) (pe_ix ix_list (pe_lst (pa_cons pe_int (pa_cons (pe_cl R_law_pick hr (pa_cons (pv 0) (pa_cons pe_int pa_nil))) pa_nil))) (pe_cl R_law_pick hr (pa_cons (pv 0) (pa_cons pe_int pa_nil))) (fun _ _ => rfl)))
    (pss_cons (ps_set (i := 6) sc_works.nd rfl (Or.inl rfl) (pe_lst pa_nil))
    (pss_cons (ps_for PassesOwn.never rfl (pi_range1 rfl T.b_range (pa_cons (pv 1) pa_nil)) (pg_name (i := 7) sc_works.nd rfl (Or.inl rfl))
      (pss_cons (ps_par (i := 8) (j := 9) rfl sc_works.nd rfl rfl (by decide) rfl rfl (pa_cons (pe_op op_add (pe_op op_add pe_int (pv 4)) (pe_cl R_law_pick hr (pa_cons (pv 0) (pa_cons (pv 2) pa_nil)))) (pa_cons (pe_op op_add (pv 4) (pe_cl R_law_pick hr (pa_cons (pv 0) (pa_cons (pv 3) pa_nil)))) pa_nil)) (by rfl))
      (pss_cutW (ps_if (PW.pt (pw_and (pt_cmpR op_gt (pv 7) pe_int (nomark _)) (pw_and1 (pt_cmpR op_eq (pe_cl R_law_pick hr (pa_cons (pv 0) (pa_cons pe_int pa_nil))) pe_int (nomark _))))) (pss_cons (ps_set (i := 10) sc_works.nd rfl (Or.inl rfl) (pe_ix ix_list (pv 6) (pe_cl R_law_pick hr (pa_cons (pv 0) (pa_cons (pv 7) pa_nil))) (fun _ _ => rfl)))
        (pss_cons (ps_set (i := 11) sc_works.nd rfl (Or.inl rfl) (pe_and (pe_cmpR op_le (pe_op op_mul (pe_ix ix_tup (pv 10) pe_int (fun _ _ => rfl)) pe_int) (pv 2) (nomark _)) (pe_one (pe_cmpR op_lt (pe_op op_mul (pe_ix ix_tup (pe_ix ix_tup (pv 10) pe_int (fun _ _ => rfl)) pe_int (fun _ _ => rfl)) pe_int) (pv 3) (nomark _)))))
        (pss_cutW (ps_set (i := 12) sc_works.nd rfl (Or.inl rfl) (pe_ifExp (pt_val (pv 11)) (pe_op op_add pe_int (pe_cl R_law_pick hr (pa_cons (pv 0) (pa_cons pe_int pa_nil)))) pe_int))
        (pss_one (ps_par (i := 8) (j := 9) rfl sc_works.nd rfl rfl (by decide) rfl rfl (pa_cons (pe_op op_mul (pe_ix ix_tup (pv 10) pe_int (fun _ _ => rfl)) (pv 12)) (pa_cons (pe_op op_mul (pe_ix ix_tup (pe_ix ix_tup (pv 10) pe_int (fun _ _ => rfl)) pe_int (fun _ _ => rfl)) (pv 12)) pa_nil)) (by rfl)))))) pss_nil)
      (pss_one (ps_expr (pe_bm PySem.F.plainAttrs_list PySem.F.slot_list_append PySem.F.type_list_append mt_append (pv 6) (pa_cons (pe_tup (pa_cons (pv 8) (pa_cons (pv 5) (pa_cons (pe_tup (pa_cons pe_str (pa_cons (pv 9) pa_nil))) pa_nil)))) pa_nil)))))))
    (pss_one (ps_ret (pe_callTy call_tuple_of rfl T.b_tuple (by decide +kernel) (pa_cons (pv 6) pa_nil))))))))), ?_⟩
  have z3 : ∀ a b c : V, [a, b, c].length ≤ sizeLine := fun _ _ _ => by show 3 ≤ sizeLine; decide
  refine ⟨z3 _ _ _, fun p1 hp1 => ⟨z3 _ _ _, fun p2 hp2 => ⟨z3 _ _ _, fun p3 hp3 => ⟨z3 _ _ _, fun p4 hp4 => ⟨(by show 4 ≤ sizeLine; decide), fun l5 hl5 => ?_⟩⟩⟩⟩⟩
  generalize hA : upd (upd (upd (upd H p1 (.tup [.int 20, .int 10, .int 0])) p2 (.tup [.int 3, .int 3, .int 0])) p3 (.tup [.int 20, .int 2, .int 0])) p4 (.tup [.int 1000000, .int 1000001, .int 0]) = HA at hl5
  have k1 : Same H (upd H p1 (.tup [.int 20, .int 10, .int 0])) := same_new hp1
  have k2 := same_new hp2 (o := .tup [.int 3, .int 3, .int 0])
  have k3 := same_new hp3 (o := .tup [.int 20, .int 2, .int 0])
  have k4 := same_new hp4 (o := .tup [.int 1000000, .int 1000001, .int 0])
  have g1 : HA p1 = some (.tup [.int 20, .int 10, .int 0]) := by rw [← hA]; exact k4 _ _ (k3 _ _ (k2 _ _ upd_same))
  have g2 : HA p2 = some (.tup [.int 3, .int 3, .int 0]) := by rw [← hA]; exact k4 _ _ (k3 _ _ upd_same)
  have g3 : HA p3 = some (.tup [.int 20, .int 2, .int 0]) := by rw [← hA]; exact k4 _ _ upd_same
  have g4 : HA p4 = some (.tup [.int 1000000, .int 1000001, .int 0]) := by rw [← hA]; exact upd_same
  have kA : Same H HA := by rw [← hA]; exact k1.trans (k2.trans (k3.trans k4))
  have k5 : Same HA (upd HA l5 (.lst [.ref p1, .ref p2, .ref p3, .ref p4])) := same_new hl5
  have hTA := hT.same kA
  have nl5 := hTA.ne hl5
  refine ⟨_, rfl, t, tl, 4, rfl, hTA.same k5, by decide, by decide, fun r H1 r0 r4 b1 hT1 => ?_⟩
  have kt1 := (hTA.same k5).kt b1
  have hl1 : H1 l5 = some (.lst [.ref p1, .ref p2, .ref p3, .ref p4]) := b1 _ _ nl5 upd_same
  have B1 : But t H H1 := (But.same (kA.trans k5)).trans b1
  have pickd : ∃ (pq : Addr) (a b c : Int), atI [V.ref p1, .ref p2, .ref p3, .ref p4] r = some (.ref pq) ∧ H1 pq = some (.tup [.int a, .int b, .int c]) ∧ Menu a b c := by
    have cs : r = 0 ∨ r = 1 ∨ r = 2 ∨ r = 3 := by omega
    rcases cs with rfl | rfl | rfl | rfl
    · exact ⟨p1, 20, 10, 0, atI_nat (j := 0) rfl, kt1 _ _ (k5 _ _ g1), ⟨by decide, by decide, by decide, by decide, by decide⟩⟩
    · exact ⟨p2, 3, 3, 0, atI_nat (j := 1) rfl, kt1 _ _ (k5 _ _ g2), ⟨by decide, by decide, by decide, by decide, by decide⟩⟩
    · exact ⟨p3, 20, 2, 0, atI_nat (j := 2) rfl, kt1 _ _ (k5 _ _ g3), ⟨by decide, by decide, by decide, by decide, by decide⟩⟩
    · exact ⟨p4, 1000000, 1000001, 0, atI_nat (j := 3) rfl, kt1 _ _ (k5 _ _ g4), ⟨by decide, by decide, by decide, by decide, by decide⟩⟩
  obtain ⟨pq, a0, b0, c0, hat, hpq, M0⟩ := pickd
  refine ⟨l5, _, _, _, rfl, rfl, SqL.of hl1, hat, ?_⟩
  refine ⟨_, _, rfl, SqT.of hpq, rfl, _, _, rfl, _, _, rfl, _, _, rfl, rfl, ?_⟩
  refine ⟨fun σ H' => But t H H' ∧ TapeV H' t tl ∧ ∃ long heavy low, Menu long heavy low ∧ σ = [some (.ref t), some (nv n), some (.int long), some (.int heavy), some (.int low), none, none, none, none, none, none, none, none], ?_, ?_⟩
  · refine ⟨_, rfl, rfl, _, rfl, ?_⟩
    refine ite2 (fun _ => ?_) (fun _ => ?_)
    · refine ⟨_, rfl, t, tl, 2, rfl, hT1, by decide, by decide, fun r H2 _ _ b2 hT2 => ?_⟩
      refine ⟨rfl, _, rfl, ?_⟩
      refine ite2 (fun _ => ?_) (fun _ => ?_)
      · refine ⟨z3 _ _ _, fun p7 hp7 => ⟨_, _, rfl, SqT.of upd_same, rfl, _, _, rfl, _, _, rfl, _, _, rfl, rfl, ?_⟩⟩
        exact ⟨B1.trans (b2.trans (But.same (same_new hp7))), hT2.same (same_new hp7), 8, 9, 999992, ⟨by decide, by decide, by decide, by decide, by decide⟩, rfl⟩
      · exact ⟨B1.trans b2, hT2, a0, b0, c0, M0, rfl⟩
    · exact iteF ⟨B1, hT1, a0, b0, c0, M0, rfl⟩
  rintro σ2 H2 ⟨B2, hT2, long, heavy, low, M, rfl⟩
  have m1 := M.l1
  have m2 := M.h1
  have m3 := M.w0
  have m4 := M.l
  have m5 := M.h
  -- the coming
  refine ⟨_, rfl, t, tl, 61, rfl, hT2, by decide, by decide, fun r1 H3 r10 r11 b3 hT3 => ?_⟩
  refine ⟨(by show 2 ≤ sizeLine; decide), fun l6 hl6 => ?_⟩
  have k6 : Same H3 (upd H3 l6 (.lst [.int 0, .int r1])) := same_new hl6
  have nl6 := hT3.ne hl6
  refine ⟨_, rfl, t, tl, 2, rfl, hT3.same k6, by decide, by decide, fun r2 H4 r20 r21 b4 hT4 => ?_⟩
  have hl64 : H4 l6 = some (.lst [.int 0, .int r1]) := b4 _ _ nl6 upd_same
  have B4 : But t H H4 := B2.trans (b3.trans ((But.same k6).trans b4))
  have pc : ∃ c : Int, atI [V.int 0, .int r1] r2 = some (.int c) ∧ 0 ≤ c ∧ c ≤ 60 := by
    have cs : r2 = 0 ∨ r2 = 1 := by omega
    rcases cs with rfl | rfl
    · exact ⟨0, atI_nat (j := 0) rfl, by decide, by decide⟩
    · exact ⟨r1, atI_nat (j := 1) rfl, by omega, by omega⟩
  obtain ⟨c, hc, c60⟩ := pc
  refine ⟨l6, _, _, _, rfl, rfl, SqL.of hl64, hc, ?_⟩
  -- found
  refine ⟨(by show 0 ≤ sizeLine; decide), fun f0 hf0 => ?_⟩
  have nf0 := hT4.ne hf0
  have nf0l := hT4.ne2 hf0
  have k7 : Same H4 (upd H4 f0 (.lst [])) := same_new hf0
  have hf0H : H f0 = none := by
    cases e : H f0 with
    | none => rfl
    | some o => rw [B4 _ _ nf0 e] at hf0; cases hf0
  refine ⟨_, rfl, (n : Int), rfl, by omega, by omega, ?_⟩
  refine for_range (n := n) (fun i σ H' => But t H H' ∧ TapeV H' t tl ∧ (∃ us xs, H' f0 = some (.lst us) ∧ All2 (WkV H' c) us xs ∧ xs.length = i ∧ ∀ x ∈ xs, Wk1 x) ∧ ∃ y1 y2 y3 y4 y5 y6, σ = [some (.ref t), some (nv n), some (.int long), some (.int heavy), some (.int low), some (.int c), some (.ref f0), y1, y2, y3, y4, y5, y6])
    ⟨B4.trans (But.same k7), hT4.same k7, ⟨[], [], upd_same, .nil, rfl, fun x hx => nomatch hx⟩, _, _, _, _, _, _, rfl⟩ (fun i σ H5 hi h => ?_) (fun σ H5 h => ?_)
  · obtain ⟨B5, hT5, ⟨us, xs, e1, a1, l1, wk⟩, y1, y2, y3, y4, y5, y6, rfl⟩ := h
    have ul := a1.length
    have ei : V.int (0 + (i : Nat)) = nv i := by unfold nv; congr 1; omega
    rw [ei]
    -- length, weight
    refine ⟨_, rfl, _, _, rfl, rfl, _, rfl, _, rfl, t, tl, long, rfl, hT5, by omega, by omega, fun ra H6 ra0 ra1 b6 hT6 => ?_⟩
    refine ⟨_, _, rfl, rfl, ?_⟩
    refine ⟨_, rfl, _, rfl, _, rfl, t, tl, heavy, rfl, hT6, by omega, by omega, fun rb H7 rb0 rb1 b7 hT7 => ?_⟩
    refine ⟨_, _, rfl, rfl, _, _, rfl, ?_⟩
    have b57 := b6.trans b7
    have kt57 := hT5.kt b57
    have e17 : H7 f0 = some (.lst us) := b57 _ _ nf0 e1
    have a17 := a1.imp fun _ _ => WkV.kt (c := c) kt57
    -- the alike one
    refine ⟨fun σ H' => But t H H' ∧ TapeV H' t tl ∧ H' f0 = some (.lst us) ∧ All2 (WkV H' c) us xs ∧ ∃ L W, Wk1 (L, W) ∧ ∃ z1 z2 z3, σ = [some (.ref t), some (nv n), some (.int long), some (.int heavy), some (.int low), some (.int c), some (.ref f0), some (nv i), some (.int L), some (.int W), z1, z2, z3], ?_, ?_⟩
    · have out : ∀ H8, But t H7 H8 → TapeV H8 t tl → But t H H8 ∧ H8 f0 = some (.lst us) ∧ All2 (WkV H8 c) us xs := fun H8 b8 hT8 =>
        ⟨B5.trans (b57.trans b8), b8 _ _ nf0 e17, a17.imp fun _ _ => WkV.kt (hT7.kt b8)⟩
      have base1 : Wk1 (1 + low + ra, low + rb) := ⟨⟨by show 1 ≤ 1 + low + ra; omega, by show 1 + low + ra ≤ 1000000; omega⟩, by show 0 ≤ low + rb; omega, by show low + rb ≤ 1000000; omega⟩
      refine ⟨_, rfl, _, _, rfl, rfl, _, rfl, ?_⟩
      refine ite2 (fun ci => ?_) (fun ci => ?_)
      · have i0 : 0 < i := by have := of_decide_eq_true ci; omega
        refine ⟨_, rfl, t, tl, 3, rfl, hT7, by decide, by decide, fun rc H8 _ _ b8 hT8 => ?_⟩
        refine ⟨rfl, _, rfl, ?_⟩
        refine ite2 (fun _ => ?_) (fun _ => ?_)
        · refine ⟨_, rfl, _, rfl, _, rfl, t, tl, (i : Int), rfl, hT8, by omega, by omega, fun rd H9 rd0 rd1 b9 hT9 => ?_⟩
          obtain ⟨B9, e19, a19⟩ := out H9 (b8.trans b9) hT9
          have hix : rd.toNat < us.length := by omega
          have eu : us[rd.toNat]? = some us[rd.toNat] := List.getElem?_eq_getElem hix
          obtain ⟨x, hx, bq, qq, ev, h1, h2⟩ := a19.get' eu
          have wx := wk x (List.mem_of_getElem? hx)
          have wx1 := wx.1.1
          have wx2 := wx.1.2
          have wx3 := wx.2.1
          have wx4 := wx.2.2
          refine ⟨_, _, _, _, rfl, rfl, SqL.of e19, at_of (j := rd.toNat) (by omega) eu, ?_⟩
          rw [ev]
          -- small
          refine ⟨_, rfl, _, _, _, _, rfl, rfl, SqT.of h1, atI_nat (j := 0) rfl, _, _, rfl, rfl, .inr ⟨by decide, by decide⟩, _, rfl, _, _, rfl, rfl, _, rfl, ?_⟩
          -- by
          have byrest : ∀ (by_ : Int) (H10 : Hp) (b : Bool), But t H9 H10 → TapeV H10 t tl → 1 ≤ by_ → Wk1 (x.1 * by_, x.2 * by_) → (But t H H10 ∧ TapeV H10 t tl ∧ H10 f0 = some (.lst us) ∧ All2 (WkV H10 c) us xs ∧ H10 bq = some (.tup [.int x.1, .int c, .ref qq]) ∧ H10 qq = some (.tup [.str "ends", .int x.2])) := fun by_ H10 b b10 hT10 _ _ => by
            obtain ⟨B10, e110, a110⟩ := out H10 (b8.trans (b9.trans b10)) hT10
            exact ⟨B10, hT10, e110, a110, hT9.kt b10 _ _ h1, hT9.kt b10 _ _ h2⟩
          have sml : ∀ bb : Bool, (bb = true → x.1 * 3 ≤ long ∧ x.2 * 3 < heavy) → tCutW (tAsg (tIf (tB (tVar 11)) (tOp (rI0 fun i j => V.int (i + j)) (tC (V.int 1)) (tCall sp_pick [] E0 (tCons (tVar 0) (tCons (tC (V.int 3)) tNil)))) (tC (V.int 1))) (gName 12))
              (tPar 8 9 (tCons (tOp (rI CMul fun i j => V.int (i * j)) (tOp (rIxT K) (tVar 10) (tC (V.int 0))) (tVar 12)) (tCons (tOp (rI CMul fun i j => V.int (i * j)) (tOp (rIxT K) (tOp (rIxT K) (tVar 10) (tC (V.int 2))) (tC (V.int 1))) (tVar 12)) tNil)))
              { nx := fun σ H' => But t H H' ∧ TapeV H' t tl ∧ H' f0 = some (.lst us) ∧ All2 (WkV H' c) us xs ∧ ∃ L W, Wk1 (L, W) ∧ ∃ z1 z2 z3, σ = [some (.ref t), some (nv n), some (.int long), some (.int heavy), some (.int low), some (.int c), some (.ref f0), some (nv i), some (.int L), some (.int W), z1, z2, z3], rt := Q }
              [some (.ref t), some (nv n), some (.int long), some (.int heavy), some (.int low), some (.int c), some (.ref f0), some (nv i), some (.int (1 + low + ra)), some (.int (low + rb)), some (.ref bq), some (.bl bb), y6] H9 := fun bb hbb => by
            refine ⟨fun σ H' => ∃ by_ : Int, 1 ≤ by_ ∧ by_ ≤ 3 ∧ Wk1 (x.1 * by_, x.2 * by_) ∧ But t H H' ∧ TapeV H' t tl ∧ H' f0 = some (.lst us) ∧ All2 (WkV H' c) us xs ∧ H' bq = some (.tup [.int x.1, .int c, .ref qq]) ∧ H' qq = some (.tup [.str "ends", .int x.2]) ∧
              σ = [some (.ref t), some (nv n), some (.int long), some (.int heavy), some (.int low), some (.int c), some (.ref f0), some (nv i), some (.int (1 + low + ra)), some (.int (low + rb)), some (.ref bq), some (.bl bb), some (.int by_)], ?_, ?_⟩
            · refine ⟨_, rfl, _, rfl, ?_⟩
              cases bb with
              | true =>
                refine iteT ⟨_, rfl, t, tl, 3, rfl, hT9, by decide, by decide, fun re H10 re0 re1 b10 hT10 => ?_⟩
                obtain ⟨s1, s2⟩ := hbb rfl
                have wk3 : Wk1 (x.1 * (1 + re), x.2 * (1 + re)) := by
                  have cs : re = 0 ∨ re = 1 ∨ re = 2 := by omega
                  rcases cs with rfl | rfl | rfl <;> exact ⟨⟨by show 1 ≤ x.1 * _; omega, by show x.1 * _ ≤ 1000000; omega⟩, by show 0 ≤ x.2 * _; omega, by show x.2 * _ ≤ 1000000; omega⟩
                obtain ⟨o1, o2, o3, o4, o5, o6⟩ := byrest (1 + re) H10 true b10 hT10 (by omega) wk3
                exact ⟨_, _, rfl, rfl, 1 + re, by omega, by omega, wk3, o1, o2, o3, o4, o5, o6, rfl⟩
              | false =>
                have wk1 : Wk1 (x.1 * 1, x.2 * 1) := by rw [Int.mul_one, Int.mul_one]; exact wx
                obtain ⟨o1, o2, o3, o4, o5, o6⟩ := byrest 1 H9 true (But.same (Same.refl _)) hT9 (by decide) wk1
                exact iteF ⟨1, by decide, by decide, wk1, o1, o2, o3, o4, o5, o6, rfl⟩
            rintro σ10 H10 ⟨by_, b1, b3, wkb, o1, o2, o3, o4, o5, o6, rfl⟩
            refine ⟨_, rfl, _, _, _, _, rfl, rfl, SqT.of o5, atI_nat (j := 0) rfl, _, rfl, _, _, rfl, rfl, .inr ⟨by omega, by omega⟩, ?_⟩
            refine ⟨_, rfl, _, _, _, _, rfl, rfl, SqT.of o5, atI_nat (j := 2) rfl, _, _, _, _, rfl, rfl, SqT.of o6, atI_nat (j := 1) rfl, _, rfl, _, _, rfl, rfl, .inr ⟨by omega, by omega⟩, _, _, rfl, ?_⟩
            exact ⟨o1, o2, o3, o4, _, _, wkb, _, _, _, rfl⟩
          by_cases s1 : x.1 * 3 ≤ long
          · rw [decide_eq_true s1]
            refine iteT ?_
            refine ⟨_, rfl, _, _, _, _, rfl, rfl, SqT.of h1, atI_nat (j := 2) rfl, _, _, _, _, rfl, rfl, SqT.of h2, atI_nat (j := 1) rfl, _, _, rfl, rfl, .inr ⟨by decide, by decide⟩, _, rfl, _, _, rfl, rfl, ?_⟩
            exact sml _ fun z => ⟨s1, of_decide_eq_true z⟩
          · rw [decide_eq_false s1]
            exact iteF (sml false fun z => nomatch z)
        · obtain ⟨B8, e18, a18⟩ := out H8 b8 hT8
          exact ⟨B8, hT8, e18, a18, _, _, base1, _, _, _, rfl⟩
      · obtain ⟨B8, e18, a18⟩ := out H7 (But.same (Same.refl _)) hT7
        exact iteF ⟨B8, hT7, e18, a18, _, _, base1, _, _, _, rfl⟩
    -- append
    rintro σ8 H8 ⟨B8, hT8, e18, a18, L, W, wkLW, z1, z2, z3', rfl⟩
    refine ⟨_, rfl, .inl ⟨rfl, _, SqL.of e18⟩, _, rfl, _, rfl, _, rfl, (by show 2 ≤ sizeLine; decide), fun q1 hq1 => ?_⟩
    have kq : Same H8 (upd H8 q1 (.tup [.str "ends", .int W])) := same_new hq1
    refine ⟨z3 _ _ _, fun w1 hw1 => ?_⟩
    have kw : Same _ (upd (upd H8 q1 (.tup [.str "ends", .int W])) w1 (.tup [.int L, .int c, .ref q1])) := same_new hw1
    generalize hH9 : upd (upd H8 q1 (.tup [.str "ends", .int W])) w1 (.tup [.int L, .int c, .ref q1]) = H9 at kw
    have k89 : Same H8 H9 := kq.trans kw
    have e19 := k89 _ _ e18
    have hw1' : H9 w1 = some (.tup [.int L, .int c, .ref q1]) := by rw [← hH9, upd_same]
    have hq1' : H9 q1 = some (.tup [.str "ends", .int W]) := kw _ _ upd_same
    refine ⟨f0, us, _, rfl, rfl, e19, lst_len (by omega), ?_⟩
    have kt : KT H9 (upd H9 f0 (.lst (us ++ [.ref w1]))) := KT.lst e19
    have hT9 := hT8.same k89
    refine ⟨fun b o nb hb => ?_, ?_, ⟨us ++ [.ref w1], xs ++ [(L, W)], upd_same, (a18.imp fun _ _ => WkV.kt ((KT.same k89).trans kt)).snoc ⟨w1, q1, rfl, kt _ _ hw1', kt _ _ hq1'⟩, by rw [List.length_append, l1]; rfl, fun x hx => ?_⟩, _, _, _, _, _, _, rfl⟩
    · rw [upd_ne (ne_of_none hb hf0H)]
      exact k89 _ _ (B8 _ _ nb hb)
    · exact hT9.upd nf0 nf0l
    · rcases List.mem_append.mp hx with hx | hx
      · exact wk x hx
      · rw [List.mem_singleton] at hx
        subst hx
        exact wkLW
  · obtain ⟨B5, hT5, ⟨us, xs, e1, a1, l1, wk⟩, y1, y2, y3, y4, y5, y6, rfl⟩ := h
    refine ⟨_, rfl, f0, us, rfl, .inl ⟨SqL.of e1, fun r hr' => ?_⟩⟩
    have k : Same H5 (upd H5 r (.tup us)) := same_new hr'
    exact q r _ c _ _ (B5.trans (But.same k)) (hT5.same k) (works_of upd_same (a1.imp fun _ _ => WkV.kt (KT.same k)) wk l1 n1 n8 c60)
end
end NW
/-! k67 by hand, 17: the law's row, lowest terms, what an order costs -/
namespace NW
open PySem PySem.Spec PyProof.Rows L2
theorem rgV_nv (n : Nat) : rgV 0 (n : Int) = (List.range n).map nv := by
  unfold rgV
  rw [show ((n : Int) - 0).toNat = n by omega]
  congr 1
  funext i
  unfold nv; congr 1; omega
theorem erase_map {α β : Type} (f : α → β) : ∀ (l : List α) (k : Nat), (l.map f).eraseIdx k = (l.eraseIdx k).map f
  | [], _ => rfl
  | _ :: _, 0 => rfl
  | x :: r, k + 1 => by
    simp only [List.map_cons, List.eraseIdx_cons_succ]
    rw [erase_map f r k]
theorem erase_perm {α : Type} : ∀ (l : List α) (k : Nat) (x : α), l[k]? = some x → (x :: l.eraseIdx k).Perm l
  | [], _, _, h => by simp at h
  | y :: r, 0, x, h => by
    have : y = x := by simpa using h
    subst this
    exact .refl _
  | y :: r, k + 1, x, h => by
    have ih := erase_perm r k x (by simpa using h)
    rw [List.eraseIdx_cons_succ]
    exact (List.Perm.swap y x _).trans (ih.cons y)
theorem cost_snoc {p T : Nat → Int} (x : Nat) : ∀ (l : List Nat) (e : Int), cost p T e (l ++ [x]) = cost p T e l + T x * (e + sm p l + p x)
  | [], e => by simp [cost, sm]
  | y :: r, e => by
    have := cost_snoc (p := p) (T := T) x r (e + p y)
    simp only [List.cons_append, cost, sm]
    rw [this]
    have e1 : e + p y + sm p r + p x = e + (p y + sm p r) + p x := by omega
    rw [e1]; omega
section
variable {P : Program} {w : World} {K : PySem.W.Frag} {mg : Str → Option Value} {base : Heap}
abbrev s_row : Stmt := top 47
theorem sc_row : FnScope ["_law_tape_here", "_law_many", "_law_left", "_law_row_here", "_law_turn"] ["_law_tape_here", "_law_many"] (defScope s_row) := ⟨rfl, rfl, rfl, by decide +kernel, rfl, by decide +kernel, by decide +kernel⟩
def sp_rowT : Sp := fun vs H Q _ => ∃ (t tl : Addr) (n : Nat), vs = [.ref t, nv n] ∧ TapeV H t tl ∧ n ≤ 8 ∧ ∀ (r : Addr) (H' : Hp) (row : List Nat), But t H H' → TapeV H' t tl → H' r = some (.tup (row.map nv)) → row.Perm (List.range n) → Q (.ref r) H'
theorem r_rowT (D : Df K mg "_law_row" s_row) (T : Bi mg) (R_law_pick : Rdy P w K mg base "_law_pick" 1 ["_law_tape_here", "_law_many"] sp_pick) : Rdy P w K mg base "_law_row" 2 ["_law_tape_here", "_law_many"] sp_rowT := by
  refine rdy D sc_row (fun _ _ _ _ _ _ us hl => match us, hl with | [_, _], _ => rfl) (fun vs H Q E h => ?_) (fun f cdv A outer s H vs Q E hr h => ?_)
  · obtain ⟨t, tl, n, rfl, _⟩ := h
    rfl
  obtain ⟨t, tl, n, rfl, hT, n8, q⟩ := h
  refine ⟨_, (pss_cons (ps_par (i := 2) (j := 3) rfl sc_row.nd rfl rfl (by decide) rfl rfl (pa_cons (pe_listRg rfl rfl T.b_list (prg_1 rfl T.b_range (pv 1))) (pa_cons (pe_lst pa_nil) pa_nil)) (by rfl))
    (pss_cons (ps_for PassesOwn.never rfl (pi_range1 rfl T.b_range (pa_cons (pv 1) pa_nil)) (pg_name (i := 4) sc_row.nd rfl (Or.inl rfl))
      (pss_one (ps_expr (pe_bm PySem.F.plainAttrs_list PySem.F.slot_list_append PySem.F.type_list_append mt_append (pv 3) (pa_cons (pe_bm PySem.F.plainAttrs_list PySem.F.slot_list_pop PySem.F.type_list_pop mt_popAt (pv 2) (pa_cons (pe_cl R_law_pick hr (pa_cons (pv 0) (pa_cons (pe_callB call_len_seq rfl T.b_len PySem.boot_len (pa_cons (pv 2) pa_nil)) pa_nil))) pa_nil)) pa_nil)))))
    (pss_one (ps_ret (pe_callTy call_tuple_of rfl T.b_tuple (by decide +kernel) (pa_cons (pv 3) pa_nil)))))), ?_⟩
  refine ⟨_, rfl, (n : Int), rfl, RgOk.of_le (by omega) (by omega) (by omega) (by omega), fun l0 hl0 => ?_⟩
  rw [rgV_nv]
  refine ⟨(by show 0 ≤ sizeLine; decide), fun r0 hr0 => ⟨_, _, rfl, ?_⟩⟩
  have k1 : Same H (upd H l0 (.lst ((List.range n).map nv))) := same_new hl0
  have hr0H := k1.free hr0
  have n0t := hT.ne hl0
  have n0l := hT.ne2 hl0
  have nrt := (hT.same k1).ne hr0
  have nrl := (hT.same k1).ne2 hr0
  have nrl0 : r0 ≠ l0 := fun z => by rw [z, upd_same] at hr0; cases hr0
  have k2 := k1.trans (same_new hr0 (o := .lst []))
  refine ⟨_, rfl, (n : Int), rfl, by omega, by omega, ?_⟩
  refine for_range (n := n) (fun i σ H' => But t H H' ∧ TapeV H' t tl ∧ (∃ left row : List Nat, H' l0 = some (.lst (left.map nv)) ∧ H' r0 = some (.lst (row.map nv)) ∧ row.length = i ∧ (row ++ left).Perm (List.range n)) ∧ ∃ x, σ = [some (.ref t), some (nv n), some (.ref l0), some (.ref r0), x])
    ⟨But.same k2, hT.same k2, ⟨List.range n, [], by rw [upd_ne (Ne.symm nrl0), upd_same], upd_same, rfl, .refl _⟩, none, rfl⟩ (fun i σ H1 hi h => ?_) (fun σ H1 h => ?_)
  · obtain ⟨B1, hT1, ⟨left, row, e1, e2, rl, pm⟩, x0, rfl⟩ := h
    have plen := pm.length_eq
    rw [List.length_append, List.length_range] at plen
    have ll : (left.map nv).length = left.length := List.length_map _
    refine ⟨_, rfl, .inl ⟨rfl, _, SqL.of e2⟩, ?_⟩
    refine ⟨_, rfl, .inl ⟨rfl, _, SqL.of e1⟩, ?_⟩
    refine ⟨_, rfl, _, rfl, l0, _, rfl, .inl (SqL.of e1), t, tl, ((left.map nv).length : Nat), rfl, hT1, by omega, by omega, fun r H2 ra rb b2 hT2 => ?_⟩
    have e12 := b2 _ _ n0t e1
    have e22 := b2 _ _ nrt e2
    have hk : r.toNat < left.length := by omega
    have ek : left[r.toNat]? = some left[r.toNat] := List.getElem?_eq_getElem hk
    have er : r = ((r.toNat : Nat) : Int) := by omega
    refine ⟨l0, _, r, r.toNat, nv left[r.toNat], rfl, rfl, e12, by omega, by omega, ?_, by rw [List.getElem?_map, ek] <;> rfl, ?_⟩
    · have := (ixN_seq (ixN_nat (n := (left.map nv).length) (j := r.toNat) (by omega))).1
      rw [← er] at this
      exact this
    rw [erase_map]
    have e23 : (upd H2 l0 (.lst ((left.eraseIdx r.toNat).map nv))) r0 = some (.lst (row.map nv)) := by rw [upd_ne nrl0]; exact e22
    refine ⟨r0, _, _, rfl, rfl, e23, by rw [List.length_map]; exact lst_len (by omega), ?_⟩
    refine ⟨fun b o nb hb => ?_, (hT2.upd n0t n0l).upd nrt nrl, ⟨left.eraseIdx r.toNat, row ++ [left[r.toNat]], by rw [upd_ne (Ne.symm nrl0), upd_same], by rw [upd_same, List.map_append] <;> rfl, by rw [List.length_append, rl] <;> rfl, ?_⟩, _, rfl⟩
    · rw [upd_ne (ne_of_none hb hr0H), upd_ne (ne_of_none hb hl0)]
      exact b2 _ _ nb (B1 _ _ nb hb)
    · rw [List.append_assoc]
      exact ((erase_perm left r.toNat _ ek).append_left row).trans pm
  · obtain ⟨B1, hT1, ⟨left, row, e1, e2, rl, pm⟩, x0, rfl⟩ := h
    have plen := pm.length_eq
    rw [List.length_append, List.length_range] at plen
    have l0' : left = [] := List.length_eq_zero_iff.mp (by omega)
    rw [l0', List.append_nil] at pm
    refine ⟨_, rfl, r0, _, rfl, .inl ⟨SqL.of e2, fun r hr' => ?_⟩⟩
    have k : Same H1 (upd H1 r (.tup (row.map nv))) := same_new hr'
    exact q r _ row (B1.trans (But.same k)) (hT1.same k) upd_same pm

abbrev s_low : Stmt := top 51
theorem sc_low : FnScope ["_law_top", "_law_bottom", "_law_one", "_law_other"] ["_law_top", "_law_bottom"] (defScope s_low) := ⟨rfl, rfl, rfl, by decide +kernel, rfl, by decide +kernel, by decide +kernel⟩
theorem r_low (D : Df K mg "_law_low" s_low) (T : Bi mg) : Rdy P w K mg base "_law_low" 1 ["_law_top", "_law_bottom"] sp_fraction := by
  refine rdy D sc_low (fun _ _ _ _ _ _ us hl => match us, hl with | [_, _], _ => rfl) (fun vs H Q E h => ?_) (fun f cdv A outer s H vs Q E hr h => ?_)
  · obtain ⟨a, b, rfl, _⟩ := h
    rfl
  obtain ⟨t, b, rfl, hb, hz, q⟩ := h
  refine ⟨_, (pss_cons (ps_par (i := 2) (j := 3) rfl sc_low.nd rfl rfl (by decide) rfl rfl (pa_cons (pe_callB call_abs rfl T.b_abs (by decide +kernel) (pa_cons (pv 0) pa_nil)) (pa_cons (pv 1) pa_nil)) (by rfl))
    (pss_cons (ps_while PassesOwn.never (pt_cmpR op_gt (pv 3) pe_int (nomark _))
      (pss_one (ps_par (i := 2) (j := 3) rfl sc_low.nd rfl rfl (by decide) rfl rfl (pa_cons (pv 3) (pa_cons (pe_op op_mod (pv 2) (pv 3)) pa_nil)) (by rfl))))
    (pss_one (ps_ret (pe_tup (pa_cons (pe_op op_fdivW (pv 0) (pv 2)) (pa_cons (pe_op op_fdivW (pv 1) (pv 2)) pa_nil))))))), ?_⟩
  refine ⟨_, rfl, _, rfl, _, rfl, _, _, rfl, ?_⟩
  rw [abs_if]
  have eg : Int.gcd (t.natAbs : Int) b = Int.gcd t b := by
    unfold Int.gcd
    simp
  refine ⟨fun m σ H' => ∃ x y : Int, σ = [some (.int t), some (.int b), some (.int x), some (.int y)] ∧ H = H' ∧ 0 ≤ x ∧ 0 ≤ y ∧ Int.gcd x y = Int.gcd t b ∧ m = y.toNat, ⟨_, t.natAbs, b, rfl, rfl, by omega, by omega, eg, rfl⟩, ?_⟩
  rintro m _ _ ⟨x, y, rfl, rfl, hx, hy, hg, rfl⟩
  refine ⟨_, rfl, _, _, rfl, rfl, _, rfl, ?_⟩
  refine ite2 (fun c => ?_) (fun c => ?_)
  · have c' : y > 0 := of_decide_eq_true c
    refine ⟨fun σ' H' => ∃ m', m' < y.toNat ∧ ∃ x y : Int, σ' = [some (.int t), some (.int b), some (.int x), some (.int y)] ∧ H = H' ∧ 0 ≤ x ∧ 0 ≤ y ∧ Int.gcd x y = Int.gcd t b ∧ m' = y.toNat, fun _ _ h => h, ?_⟩
    refine ⟨_, rfl, _, rfl, _, rfl, _, _, rfl, rfl, c', _, _, rfl, ?_⟩
    have h1 := Int.emod_nonneg x (show y ≠ 0 by omega)
    have h2 := Int.emod_lt_of_pos x c'
    exact ⟨_, by omega, y, x % y, rfl, rfl, hy, h1, by rw [gcd_step hx hy, hg], rfl⟩
  · have c' : ¬ y > 0 := of_decide_eq_false (Bool.eq_false_iff.mpr c)
    have y0 : y = 0 := by omega
    subst y0
    have ex : x = (Int.gcd t b : Nat) := by
      rw [← hg, Int.gcd_zero_right]; omega
    subst ex
    have g0 := gcd_pos_of (t := t) hb
    have g1 := gcd_le_of (t := t) hb
    have hw : CDivW t ((Int.gcd t b : Nat) : Int) := wide_div (by omega) (b := 8000) (wide_le (j := b) (by omega) g1 (bits_of hb hz)) (by omega) (by omega)
    have hw' : CDivW b ((Int.gcd t b : Nat) : Int) := hw
    exact ⟨_, rfl, _, rfl, _, _, rfl, rfl, hw, _, rfl, _, rfl, _, _, rfl, rfl, hw', pair_le, q⟩

abbrev s_cost : Stmt := top 52
theorem sc_cost : FnScope ["_law_works_here", "_law_order", "_law_end", "_law_found", "_law_j"] ["_law_works_here", "_law_order"] (defScope s_cost) := ⟨rfl, rfl, rfl, by decide +kernel, rfl, by decide +kernel, by decide +kernel⟩
def sp_cost : Sp := fun vs H Q _ => ∃ (a b : Addr) (c : Int) (n : Nat) (p w : Nat → Int) (o : List Nat), vs = [.ref a, .ref b] ∧ Works H a c n p w ∧ Rd H b (.tup (o.map nv)) ∧ (∀ j ∈ o, j < n) ∧ Q (.int (cost p w c o)) H
theorem r_cost (D : Df K mg "_law_cost" s_cost) : Rdy P w K mg base "_law_cost" 1 ["_law_works_here", "_law_order"] sp_cost := by
  refine rdy D sc_cost (fun _ _ _ _ _ _ us hl => match us, hl with | [_, _], _ => rfl) (fun vs H Q E h => ?_) (fun f cdv A outer s H vs Q E hr h => ?_)
  · obtain ⟨a, b, c, n, p, w, o, rfl, _⟩ := h
    rfl
  obtain ⟨a, b, c, n, p, w, o, rfl, hW, hb, hn, q⟩ := h
  refine ⟨_, (pss_cons (ps_par (i := 2) (j := 3) rfl sc_cost.nd rfl rfl (by decide) rfl rfl (pa_cons (pe_ix ix_tup (pe_ix ix_tup (pv 0) pe_int (fun _ _ => rfl)) pe_int (fun _ _ => rfl)) (pa_cons pe_int pa_nil)) (by rfl))
    (pss_cons (ps_for PassesOwn.never rfl (pi_tup (pv 1)) (pg_name (i := 4) sc_cost.nd rfl (Or.inl rfl))
      (pss_cons (ps_set (i := 2) sc_cost.nd rfl (Or.inl rfl) (pe_op op_add (pv 2) (pe_ix ix_tup (pe_ix ix_tup (pv 0) (pv 4) (fun _ _ => rfl)) pe_int (fun _ _ => rfl))))
      (pss_one (ps_set (i := 3) sc_cost.nd rfl (Or.inl rfl) (pe_op op_add (pv 3) (pe_op op_mul (pe_ix ix_tup (pe_ix ix_tup (pe_ix ix_tup (pv 0) (pv 4) (fun _ _ => rfl)) pe_int (fun _ _ => rfl)) pe_int (fun _ _ => rfl)) (pv 2)))))))
    (pss_one (ps_ret (pv 3))))), ?_⟩
  have n1 := hW.n1
  obtain ⟨vs, b0, q0, e1, e2, e3, e4⟩ := hW.at (j := 0) (by omega)
  refine ⟨_, rfl, _, _, _, _, rfl, rfl, SqT.of e1, e2, _, _, _, _, rfl, rfl, SqT.of e3, atI_nat (j := 1) rfl, _, _, rfl, ?_⟩
  refine ⟨_, rfl, b, rfl, ⟨_, .inl hb⟩, ?_⟩
  refine for_tup (fun i σ H' => H = H' ∧ ∃ x, σ = [some (.ref a), some (.ref b), some (.int (c + sm p (o.take i))), some (.int (cost p w c (o.take i))), x]) ⟨rfl, none, ?_⟩ (fun i σ H' _ h => by rw [← h.1]; exact Or.inl hb) (fun i x σ H' hx h => ?_) (fun σ H' h => ?_)
  · have z : c + sm p (o.take 0) = c := by simp [sm]
    rw [z]; rfl
  · obtain ⟨rfl, x0, rfl⟩ := h
    obtain ⟨j, hj, rfl⟩ := nv_at hx
    obtain ⟨vs, b1, q1, f1, f2, f3, f4⟩ := hW.at (hn j (List.mem_of_getElem? hj))
    refine ⟨_, rfl, _, rfl, _, rfl, _, _, _, _, rfl, rfl, SqT.of f1, f2, _, _, _, _, rfl, rfl, SqT.of f3, atI_nat (j := 0) rfl, _, _, rfl, rfl, ?_⟩
    refine ⟨_, rfl, _, rfl, _, rfl, _, _, _, _, rfl, rfl, SqT.of f1, f2, _, _, _, _, rfl, rfl, SqT.of f3, atI_nat (j := 2) rfl, _, _, _, _, rfl, rfl, SqT.of f4, atI_nat (j := 1) rfl, _, rfl, _, _, rfl, rfl, .inl (hW.w64 j), _, _, rfl, rfl, ?_⟩
    refine ⟨rfl, some (nv j), ?_⟩
    rw [take_snoc hj, cost_snoc, sm_snoc, ← Int.add_assoc]
    rfl
  · obtain ⟨rfl, x0, rfl⟩ := h
    rw [List.length_map, List.take_length]
    exact ⟨_, rfl, q⟩
end
end NW
/-! k67 by hand, 18: places in a tuple, the wishes kept -/
namespace NW
open PySem PySem.Spec PyProof.Rows L2
theorem idx_le : ∀ (l : List Nat) (m z : Nat), l[m]? = some z → l.idxOf z ≤ m
  | [], _, _, h => by simp at h
  | x :: l, 0, z, h => by
    have : x = z := by simpa using h
    subst this
    simp
  | x :: l, m + 1, z, h => by
    have ih := idx_le l m z (by simpa using h)
    rw [List.idxOf_cons]
    cases (x == z)
    · simp; omega
    · simp
/-! ### a tuple whose object is known to have no dict -/
def FzV (H : Hp) (v : V) (l : List Nat) : Prop := ∃ b o, v = .ref b ∧ H b = some (.frz o (.tup (l.map nv))) ∧ o.dict = none
theorem FzV.same {H H' : Hp} {v : V} {l : List Nat} (k : Same H H') : FzV H v l → FzV H' v l := fun ⟨b, o, e, h, d⟩ => ⟨b, o, e, k _ _ h, d⟩
theorem FzV.rd {H : Hp} {v : V} {l : List Nat} : FzV H v l → ∃ b, v = .ref b ∧ Rd H b (.tup (l.map nv)) := fun ⟨b, o, e, h, _⟩ => ⟨b, e, .inr ⟨o, h⟩⟩
theorem FzV.lst {H : Hp} {v : V} {l : List Nat} {p : Addr} {xs : List V} {u : HO} (hp : H p = some (.lst xs)) : FzV H v l → FzV (upd H p u) v l := fun ⟨b, o, e, h, d⟩ =>
  ⟨b, o, e, by rw [upd_ne (ne_of h hp (by intro z; cases z))]; exact h, d⟩
section
variable {X : Cx} {es : List Expr} {pos : Pos} {t : TA}
def tTupF (t : TA) : TE := fun σ H Q => t σ H fun xs H1 => xs.length ≤ sizeLine ∧ ∀ p o, H1 p = none → o.dict = none → Q (.ref p) (upd H1 p (.frz o (.tup xs)))
theorem pe_tupF {k : Nat} (h : PA X es t) : PE X (.Tuple es k pos) (tTupF t) := by
  constructor
  intro pins s σ H Q I hq
  refine wpAny_Tuple_spliced (thn (h.run pos pins s σ H _ I hq) fun us s1 hh => ?_)
  obtain ⟨xs, H1, I1, r, z, q⟩ := hh
  refine ⟨by rw [← r.length]; exact z, .ref s1.heap.objs.size, upd H1 s1.heap.objs.size (.frz { cls := .type "tuple", data := .seq us.toArray } (.tup xs)), ?_, rfl, q _ _ (I1.hok.fresh (Nat.le_refl _)) rfl⟩
  refine I1.laid (t' := s1.toks) (fun b u e => Heap.get?_push_of_some _ e) (Nat.le_refl _) ⟨Heap.get?_push_size _ rfl, z, us, r, _, Heap.get?_push_size _ rfl, rfl, _, rfl⟩
def rCatF (K : PySem.W.Frag) : R2 := fun x y H Q => ∃ a b xs ys, x = .ref a ∧ y = .ref b ∧ SqT K H a xs ∧ SqT K H b ys ∧ xs.length + ys.length ≤ sizeLine ∧
  (xs = [] → Q (.ref b) H) ∧ (xs ≠ [] → ys = [] → Q (.ref a) H) ∧ (xs ≠ [] → ys ≠ [] → ∀ p o, H p = none → o.dict = none → Q (.ref p) (upd H p (.frz o (.tup (xs ++ ys)))))
theorem op_catF : OpR X (binaryOp .Add) (rCatF X.K) := by
  intro pins s σ H x y v u Q I rx ry h
  obtain ⟨a, b, xs, ys, rfl, rfl, ha, hb, hz, q0, q1, q2⟩ := h
  by_cases hx : xs = []
  · exact op_catA pins s σ H _ _ v u Q I rx ry ⟨a, b, xs, ys, rfl, rfl, ha, hb, hz, q0, q1, fun z => absurd hx z⟩
  cases rx
  cases ry
  obtain ⟨i1, r1, p1, _⟩ := I.tuple ha
  obtain ⟨i2, r2, p2, _⟩ := I.tuple hb
  refine HT.cat_tup p1 p2 (fun z => hx (r1.nil_iff.mp z)) (fun z => ⟨.ref a, H, I, rfl, q1 hx (r2.nil_iff.mp z)⟩) (fun z => ?_) (by rw [← r1.length, ← r2.length]; exact hz)
  refine ⟨.ref s.heap.objs.size, upd H s.heap.objs.size (.frz { cls := .type "tuple", data := .seq (i1 ++ i2).toArray } (.tup (xs ++ ys))), ?_, rfl, q2 hx (fun w => z (r2.nil_iff.mpr w)) _ _ (I.hok.fresh (Nat.le_refl _)) rfl⟩
  exact I.laid (t' := s.toks) (fun b ob q => Heap.get?_push_of_some _ q) (Nat.le_refl _) ⟨Heap.get?_push_size _ rfl, by rw [List.length_append]; exact hz, _, r1.append r2, IsTup.new _ _⟩
def tyF (x : V) (H : Hp) : Prop := ∃ p o xs, x = .ref p ∧ H p = some (.frz o (.tup xs)) ∧ o.dict = none
theorem ty_F : TyOk X "tuple" tyF := by
  intro pins σ H s x v I r ty
  obtain ⟨p, o, xs, rfl, hp, hd⟩ := ty
  cases r
  obtain ⟨ho, _, its, _, o', ho', hc, _⟩ := (show ObjOk X.prog X.w H s.heap p (.frz o (.tup xs)) from I.hok p _ hp)
  rw [ho] at ho'
  cases ho'
  exact ⟨⟨o, ho, hc⟩, fun a e => by cases e; exact ⟨o, ho, hd⟩⟩
def rTix (K : PySem.W.Frag) : V → List V → Hp → VK → Prop := fun x xs H Q => ∃ (p : Addr) (l : List Nat) (z : Nat), x = .ref p ∧ xs = [nv z] ∧ SqT K H p (l.map nv) ∧ z ∈ l ∧ Q (nv (l.idxOf z)) H
theorem flat_nvs (l : List Nat) : (l.map nv).all flatV = true := flat_nv l
theorem mt_tixK (K : PySem.W.Frag) (hK : X.K = K := by rfl) : MtR X "tuple.index" (rTix K) := by
  subst hK
  intro pins s σ H x xs v us Q I rx rs h
  obtain ⟨p, ys, z, rfl, rfl, hq, hm, q⟩ := h
  cases rx
  obtain ⟨u, rfl, t, rfl⟩ := vals1 rs
  obtain ⟨its, r, ⟨⟨cls, dd, dt, sl⟩, ho, hc, n, hd⟩, hz⟩ := I.tuple hq
  simp only at hc hd
  subst hc hd
  have rl : its.length = ys.length := by rw [← r.length, List.length_map]
  have jl : ys.idxOf z < ys.length := List.idxOf_lt_length_iff.mpr hm
  have ev : ∀ (m : Nat) (h1 : m < its.toArray.size), ∃ t', its.toArray[m] = Value.int ((ys.getD m 0 : Nat) : Int) t' := fun m h1 => by
    have h2 : m < ys.length := by
      have : its.toArray.size = its.length := by simp
      omega
    obtain ⟨w1, e1, t', e2⟩ := r.get (i := m) (x := nv ys[m]) (by simp [h2])
    refine ⟨t', ?_⟩
    have e3 := (List.getElem?_eq_some_iff.mp e1).2
    have e4 : ys.getD m 0 = ys[m] := by simp [List.getD, h2]
    rw [e4, ← e2, ← e3]
    simp
  refine call_meets PySem.F.slot_tuple_index ⟨_, ho, rfl⟩ PySem.F.entry_tuple_index (PySem.F.args_tuple_index_2 _ _) (TI.tuple_indexAt p its.toArray n dd sl (.int (z : Int) t) (eqU (nv z)) (ys.idxOf z) (by simp; omega) ?_ ?_)
    ⟨ho, fun w hw => mem_eqAt (x := nv z) ⟨t, rfl⟩ rfl r (flat_nvs ys) w (by simpa using hw), ⟨nv (ys.idxOf z), H, I.tok _, ⟨_, rfl⟩, q⟩⟩
  · obtain ⟨t', e⟩ := ev (ys.idxOf z) (by simp; omega)
    rw [e]
    have e4 : ys.getD (ys.idxOf z) 0 = z := by
      simp [List.getD, jl]
    rw [e4]
    show ((z : Int) == (z : Int)) = true
    exact beq_self_eq_true _
  · intro m h1 h2
    obtain ⟨t', e⟩ := ev m h1
    rw [e]
    have hml : m < ys.length := by omega
    have e4 : ys.getD m 0 = ys[m] := by simp [List.getD, hml]
    rw [e4]
    show (((ys[m] : Nat) : Int) == (z : Int)) = false
    refine beq_eq_false_iff_ne.mpr fun w => ?_
    have w' : ys[m] = z := by omega
    have := idx_le ys m z (by rw [List.getElem?_eq_getElem hml, w'])
    omega
end
section
variable {P : Program} {w : World} {K : PySem.W.Frag} {mg : Str → Option Value} {base : Heap}
/-- the row keeps the wishes -/
def Keeps (wl : List (Nat × Nat)) (row : List Nat) : Prop := ∀ e ∈ wl, row.idxOf e.1 < row.idxOf e.2
instance (wl : List (Nat × Nat)) (row : List Nat) : Decidable (Keeps wl row) := inferInstanceAs (Decidable (∀ e ∈ wl, row.idxOf e.1 < row.idxOf e.2))
abbrev s_wished : Stmt := top 49
theorem sc_wished : FnScope ["_law_row_here", "_law_wishes", "_law_a", "_law_b"] ["_law_row_here", "_law_wishes"] (defScope s_wished) := ⟨rfl, rfl, rfl, by decide +kernel, rfl, by decide +kernel, by decide +kernel⟩
def sp_wished : Sp := fun vs H Q _ => ∃ (v : V) (row : List Nat) (wa : Addr) (wl : List (Nat × Nat)), vs = [v, .ref wa] ∧ FzV H v row ∧ Wsh H wa wl ∧ wl.length ≤ 8 ∧ (∀ e ∈ wl, e.1 ∈ row ∧ e.2 ∈ row) ∧
  ∀ H', Same H H' → Q (.bl (decide (Keeps wl row))) H'
theorem fm_bools {wl : List (Nat × Nat)} {g : Nat × Nat → Bool} : inV (.bl false) ((List.range wl.length).filterMap fun i => (wl[i]?).map fun e => V.bl (g e)) = !(wl.all g) := by
  have h : ∀ k, inV (.bl false) ((List.range k).filterMap fun i => (wl[i]?).map fun e => V.bl (g e)) = !((wl.take k).all g) := by
    intro k
    induction k with
    | zero => simp [inV]
    | succ k ih =>
      rw [range_snoc_fm]
      unfold inV at ih ⊢
      rw [List.any_append, ih]
      cases e : wl[k]? with
      | none =>
        have hk : wl.length ≤ k := by simpa using e
        rw [List.take_of_length_le hk, List.take_of_length_le (by omega)]
        simp
      | some x =>
        rw [take_snoc e, List.all_append]
        cases hg : g x <;> simp [eqV, hg]
  rw [h, List.take_length]
theorem fm_flat {wl : List (Nat × Nat)} {g : Nat × Nat → Bool} {k : Nat} : ((List.range k).filterMap fun i => (wl[i]?).map fun e => V.bl (g e)).all flatV = true := by
  rw [List.all_eq_true]
  intro x hx
  rw [List.mem_filterMap] at hx
  obtain ⟨i, _, e⟩ := hx
  cases ew : wl[i]? with
  | none => rw [ew] at e; cases e
  | some y =>
    rw [ew] at e
    cases e
    rfl
theorem r_wished (D : Df K mg "_law_wished" s_wished) : Rdy P w K mg base "_law_wished" 1 ["_law_row_here", "_law_wishes"] sp_wished := by
  refine rdy D sc_wished (fun _ _ _ _ _ _ us hl => match us, hl with | [_, _], _ => rfl) (fun vs H Q E h => ?_) (fun f cdv A outer s H vs Q E hr h => ?_)
  · obtain ⟨v, row, wa, wl, rfl, _⟩ := h
    rfl
  obtain ⟨v, row, wa, wl, rfl, ⟨rb, ro, rfl, hr0, hrd⟩, ⟨us, hwa, hwl⟩, w8, hin, q⟩ := h
  refine ⟨_, (pss_one (ps_ret (pe_cmpR op_notIn_seq pe_bl (pe_lc (own := [("_law_a", 2), ("_law_b", 3)]) rfl sc_wished.nd (pi_tup (pv 1)) (blkOk_by (N := ["_law_row_here", "_law_wishes", "_law_a", "_law_b"]) (sc := defScope s_wished) (by decide +kernel)) (fun _ _ _ _ _ => (pg_tupK K 2 rfl (pgs_cons (pg_name (i := 2) sc_wished.nd rfl (Or.inl rfl) (Or.inr rfl)) (pgs_cons (pg_name (i := 3) sc_wished.nd rfl (Or.inl rfl) (Or.inr rfl)) pgs_nil)))) (fun _ _ _ _ _ => pts_nil) (fun _ _ _ _ _ => (pe_cmpR op_lt (pe_mG ty_F PySem.F.plainAttrs_tuple PySem.F.slot_tuple_index PySem.F.type_tuple_index (mt_tixK K) (pv 0) (pa_cons (pv 2) pa_nil)) (pe_mG ty_F PySem.F.plainAttrs_tuple PySem.F.slot_tuple_index PySem.F.type_tuple_index (mt_tixK K) (pv 0) (pa_cons (pv 3) pa_nil)) (nomark _)))) (by rfl)))), ?_⟩
  have wll : us.length = wl.length := hwl.length
  refine ⟨_, rfl, wa, rfl, ⟨_, SqT.of hwa⟩, fun D hD => ?_⟩
  refine lc_fm walk_tup (fun i => (wl[i]?).map fun e => V.bl (decide (row.idxOf e.1 < row.idxOf e.2))) hD (by omega) (fun H' k => SqT.of (k _ _ hwa)) yAt_same (fun i x H0 H' R N hi k y r1 _ => ?_) (fun H1 k1 hl1 => ?_)
  · obtain ⟨e, he, eb, rfl, heb⟩ := hwl.get' y.2
    have hm := hin e (List.mem_of_getElem? he)
    refine ⟨_, _, rfl, SqT.of (k _ _ heb), rfl, _, _, rfl, _, _, rfl, rfl, rfl, yes ?_⟩
    refine ⟨_, rfl, ⟨rb, ro, _, rfl, k _ _ hr0, hrd⟩, _, rfl, rb, row, e.1, rfl, rfl, .inl (.inr ⟨_, k _ _ hr0⟩), hm.1, ?_⟩
    refine ⟨_, rfl, ⟨rb, ro, _, rfl, k _ _ hr0, hrd⟩, _, rfl, rb, row, e.2, rfl, rfl, .inl (.inr ⟨_, k _ _ hr0⟩), hm.2, ?_⟩
    refine ⟨_, _, rfl, rfl, ?_⟩
    have e2 : decide ((row.idxOf e.1 : Int) < (row.idxOf e.2 : Int)) = decide (row.idxOf e.1 < row.idxOf e.2) := by
      by_cases z : row.idxOf e.1 < row.idxOf e.2
      · rw [decide_eq_true z, decide_eq_true (by omega)]
      · rw [decide_eq_false z, decide_eq_false (by omega)]
    show R (.bl (decide ((row.idxOf e.1 : Int) < (row.idxOf e.2 : Int)))) H'
    rw [e2]
    exact r1 _ _ (by rw [he] <;> rfl) (Same.refl _)
  · refine ⟨D, _, rfl, .inl (SqL.of hl1), rfl, ?_, ?_⟩
    · rw [wll]
      exact fm_flat
    · rw [if_pos rfl, wll, fm_bools, Bool.not_not]
      have e : wl.all (fun e => decide (row.idxOf e.1 < row.idxOf e.2)) = decide (Keeps wl row) := by
        by_cases z : Keeps wl row
        · rw [decide_eq_true z]
          exact List.all_eq_true.mpr fun e he => decide_eq_true (z e he)
        · rw [decide_eq_false z]
          refine Bool.eq_false_iff.mpr fun y => z fun e he => of_decide_eq_true (List.all_eq_true.mp y e he)
      rw [e]
      exact q _ k1
end
end NW
/-! k67 by hand, 19: an order drawn -/
namespace NW
open PySem PySem.Spec PyProof.Rows L2
theorem fm_bind {α : Type} (l : List α) (g : α → Option V) : (List.range l.length).filterMap (fun i => (l[i]?).bind g) = l.filterMap g := by
  have h : ∀ k, (List.range k).filterMap (fun i => (l[i]?).bind g) = (l.take k).filterMap g := by
    intro k
    induction k with
    | zero => simp
    | succ k ih =>
      rw [range_snoc_fm, ih]
      cases e : l[k]? with
      | none =>
        have hk : l.length ≤ k := by simpa using e
        rw [List.take_of_length_le hk, List.take_of_length_le (by omega)]
        simp
      | some x =>
        rw [take_snoc e, List.filterMap_append]
        cases hg : g x <;> simp [hg]
  rw [h, List.take_length]
theorem fm_of {α : Type} (P : α → Prop) [DecidablePred P] (g : α → Nat) : ∀ l : List α, l.filterMap (fun e => if P e then none else some (nv (g e))) = ((l.filter fun e => !decide (P e)).map g).map nv
  | [] => rfl
  | x :: r => by
    have ih := fm_of P g r
    by_cases h : P x
    · simp [h, ih]
    · simp [h, ih]
theorem nodup_le : ∀ (l m : List Nat), l.Nodup → (∀ x ∈ l, x ∈ m) → l.length ≤ m.length
  | [], _, _, _ => Nat.zero_le _
  | x :: r, m, hn, hs => by
    have h := List.nodup_cons.mp hn
    have ih := nodup_le r (m.erase x) h.2 fun y hy => (List.mem_erase_of_ne (fun z => h.1 (by rw [← z]; exact hy))).mpr (hs y (List.mem_cons_of_mem _ hy))
    have hm := hs x (List.mem_cons_self ..)
    rw [List.length_erase_of_mem hm] at ih
    have := List.length_pos_of_mem hm
    simp only [List.length_cons]
    omega
theorem perm_range {l : List Nat} {n : Nat} (hn : l.Nodup) (hs : ∀ x ∈ l, x < n) (hl : l.length = n) : l.Perm (List.range n) := by
  refine (List.perm_ext_iff_of_nodup hn List.nodup_range).mpr fun x => ⟨fun h => List.mem_range.mpr (hs x h), fun h => ?_⟩
  refine Classical.byContradiction fun hx => ?_
  have := nodup_le (x :: l) (List.range n) (List.nodup_cons.mpr ⟨hx, hn⟩) fun y hy => by
    rcases List.mem_cons.mp hy with rfl | hy
    · exact h
    · exact List.mem_range.mpr (hs y hy)
  rw [List.length_range, List.length_cons] at this
  omega
/-- so far the row keeps the wishes -/
def PreK (wl : List (Nat × Nat)) (row : List Nat) : Prop := ∀ e ∈ wl, e.2 ∈ row → e.1 ∈ row ∧ row.idxOf e.1 < row.idxOf e.2
theorem idx_app {row m : List Nat} {x : Nat} (h : x ∈ row) : (row ++ m).idxOf x = row.idxOf x := by
  rw [List.idxOf_append, if_pos h]
theorem PreK.snoc {wl : List (Nat × Nat)} {row : List Nat} {j : Nat} (h : PreK wl row) (hj : j ∉ row) (hh : ∀ e ∈ wl, e.2 = j → e.1 ∈ row) : PreK wl (row ++ [j]) := by
  intro e he h2
  by_cases hz : e.2 = j
  · have h1 := hh e he hz
    refine ⟨List.mem_append_left _ h1, ?_⟩
    rw [idx_app h1, hz, List.idxOf_append, if_neg hj]
    have := List.idxOf_lt_length_iff.mpr h1
    omega
  · have h2' : e.2 ∈ row := by
      rcases List.mem_append.mp h2 with z | z
      · exact z
      · exact absurd (List.mem_singleton.mp z) hz
    obtain ⟨h1, h3⟩ := h e he h2'
    refine ⟨List.mem_append_left _ h1, ?_⟩
    rw [idx_app h1, idx_app h2']
    exact h3
theorem PreK.keeps {wl : List (Nat × Nat)} {rk : Nat → Nat} {n : Nat} {row : List Nat} (h : PreK wl row) (hp : row.Perm (List.range n)) (hr : Ranked wl rk n) : Keeps wl row := fun e he =>
  (h e he (hp.mem_iff.mpr (List.mem_range.mpr (hr.lt e he).2))).2
theorem free_one {wl : List (Nat × Nat)} {rk : Nat → Nat} {n : Nat} {row : List Nat} (hr : Ranked wl rk n) : ∀ (k j : Nat), rk j ≤ k → j < n → j ∉ row → ∃ j', j' < n ∧ j' ∉ row ∧ ∀ e ∈ wl, e.2 = j' → e.1 ∈ row := by
  intro k
  induction k with
  | zero =>
    intro j hk hj hn
    refine ⟨j, hj, hn, fun e he hz => ?_⟩
    have h1 := hr.up e he
    rw [hz] at h1
    omega
  | succ k ih =>
    intro j hk hj hn
    by_cases hc : ∃ e ∈ wl, e.2 = j ∧ e.1 ∉ row
    · obtain ⟨e, he, hz, h1⟩ := hc
      have h2 := hr.up e he
      rw [hz] at h2
      exact ih e.1 (by omega) (hr.lt e he).1 h1
    · exact ⟨j, hj, hn, fun e he hz => Classical.byContradiction fun h1 => hc ⟨e, he, hz, h1⟩⟩
theorem some_free {wl : List (Nat × Nat)} {rk : Nat → Nat} {n : Nat} {row : List Nat} (hr : Ranked wl rk n) (hl : row.length < n) : ∃ j', j' < n ∧ j' ∉ row ∧ ∀ e ∈ wl, e.2 = j' → e.1 ∈ row := by
  have h : ∃ j, j < n ∧ j ∉ row := Classical.byContradiction fun hc => by
    have := nodup_le (List.range n) row List.nodup_range fun x hx => Classical.byContradiction fun hx' => hc ⟨x, List.mem_range.mp hx, hx'⟩
    rw [List.length_range] at this
    omega
  obtain ⟨j, h1, h2⟩ := h
  exact free_one hr (rk j) j (Nat.le_refl _) h1 h2
section
variable {P : Program} {w : World} {K : PySem.W.Frag} {mg : Str → Option Value} {base : Heap}
abbrev s_drawn : Stmt := top 48
theorem sc_drawn : FnScope ["_law_tape_here", "_law_many", "_law_wishes", "_law_row_here", "_law_turn", "_law_held", "_law_some", "_law_a", "_law_b", "_law_j"] ["_law_tape_here", "_law_many", "_law_wishes"] (defScope s_drawn) := ⟨rfl, rfl, rfl, by decide +kernel, rfl, by decide +kernel, by decide +kernel⟩
def sp_drawn : Sp := fun vs H Q _ => ∃ (t tl wa : Addr) (n : Nat) (wl : List (Nat × Nat)) (rk : Nat → Nat), vs = [.ref t, nv n, .ref wa] ∧ TapeV H t tl ∧ n ≤ 8 ∧ Wsh H wa wl ∧ wl.length ≤ 8 ∧ Ranked wl rk n ∧
  ∀ (r : Addr) (H' : Hp) (row : List Nat), But t H H' → TapeV H' t tl → H' r = some (.tup (row.map nv)) → row.Perm (List.range n) → Keeps wl row → Q (.ref r) H'
theorem r_drawn (D : Df K mg "_law_drawn" s_drawn) (T : Bi mg) (R_law_pick : Rdy P w K mg base "_law_pick" 1 ["_law_tape_here", "_law_many"] sp_pick) : Rdy P w K mg base "_law_drawn" 2 ["_law_tape_here", "_law_many", "_law_wishes"] sp_drawn := by
  refine rdy D sc_drawn (fun _ _ _ _ _ _ us hl => match us, hl with | [_, _, _], _ => rfl) (fun vs H Q E h => ?_) (fun f cdv A outer s H vs Q E hr h => ?_)
  · obtain ⟨t, tl, wa, n, wl, rk, rfl, _⟩ := h
    rfl
  obtain ⟨t, tl, wa, n, wl, rk, rfl, hT, n8, hwl, w8, hrk, q⟩ := h
  refine ⟨_, (pss_cons (ps_set (i := 3) sc_drawn.nd rfl (Or.inr rfl) (pe_tup pa_nil))
    (pss_cons (ps_for PassesOwn.never rfl (pi_range1 rfl T.b_range (pa_cons (pv 1) pa_nil)) (pg_name (i := 4) sc_drawn.nd rfl (Or.inl rfl))
      (pss_cons (ps_set (i := 5) sc_drawn.nd rfl (Or.inr rfl) (pe_lc (own := [("_law_a", 7), ("_law_b", 8)]) rfl sc_drawn.nd (pi_tup (pv 2)) (blkOk_by (N := ["_law_tape_here", "_law_many", "_law_wishes", "_law_row_here", "_law_turn", "_law_held", "_law_some", "_law_a", "_law_b", "_law_j"]) (sc := defScope s_drawn) (by decide +kernel)) (fun _ _ _ _ _ => (pg_tupK K 2 rfl (pgs_cons (pg_name (i := 7) sc_drawn.nd rfl (Or.inl rfl) (Or.inr rfl)) (pgs_cons (pg_name (i := 8) sc_drawn.nd rfl (Or.inl rfl) (Or.inr rfl)) pgs_nil)))) (fun _ _ _ _ _ => pts_one (pt_cmpR (op_notIn_seqK K) (pv 7) (pv 3) (by rfl))) (fun _ _ _ _ _ => (pv 8))))
      (pss_cons (ps_setLc (i := 6) rfl sc_drawn.nd rfl rfl (sw_true rfl rfl rfl (by decide +kernel)) (own := [("_law_j", 9)]) (pi_range1 rfl T.b_range (pa_cons (pv 1) pa_nil)) (blkOk_by (N := ["_law_tape_here", "_law_many", "_law_wishes", "_law_row_here", "_law_turn", "_law_held", "_law_some", "_law_a", "_law_b", "_law_j"]) (sc := defScope s_drawn) (by decide +kernel)) (fun _ _ _ _ _ => (pg_name (i := 9) sc_drawn.nd rfl (Or.inl rfl) (Or.inr rfl))) (fun _ _ _ _ _ => pts_one (PW.pt (pw_and (pt_cmpR (op_notIn_seqK K) (pv 9) (pv 3) (by rfl)) (pw_and1 (pt_cmpR (op_notIn_seqK K) (pv 9) (pv 5) (by rfl)))))) (fun _ _ _ _ _ => (pv 9)))
      (pss_one (ps_set (i := 3) sc_drawn.nd rfl (Or.inr rfl) (pe_op op_catA (pv 3) (pe_tup (pa_cons (pe_ix ix_list (pv 6) (pe_cl R_law_pick hr (pa_cons (pv 0) (pa_cons (pe_callB call_len_seq rfl T.b_len PySem.boot_len (pa_cons (pv 6) pa_nil)) pa_nil))) (fun _ _ => rfl)) pa_nil))))))))
    (pss_one (ps_ret (pv 3))))), ?_⟩
  obtain ⟨us, hwa, hus⟩ := id hwl
  have ul : us.length = wl.length := hus.length
  refine ⟨(by show 0 ≤ sizeLine; decide), fun r0 hr0 => ?_⟩
  refine ⟨_, rfl, (n : Int), rfl, by omega, by omega, ?_⟩
  refine for_range (n := n) (fun i σ H' => But t H H' ∧ TapeV H' t tl ∧ ∃ (rr : Addr) (row : List Nat), H' rr = some (.tup (row.map nv)) ∧ row.length = i ∧ row.Nodup ∧ (∀ j ∈ row, j < n) ∧ PreK wl row ∧ ∃ x y z, σ = [some (.ref t), some (nv n), some (.ref wa), some (.ref rr), x, y, z, none, none, none])
    ⟨But.same (same_new hr0), hT.same (same_new hr0), r0, [], upd_same, rfl, List.nodup_nil, fun j hj => absurd hj List.not_mem_nil, fun e _ h => absurd h List.not_mem_nil, none, none, none, rfl⟩ (fun i σ H1 hi h => ?_) (fun σ H1 h => ?_)
  · obtain ⟨B1, hT1, rr, row, e1, rl, rnd, rlt, pk, x0, y0, z0, rfl⟩ := h
    have kt1 := hT.kt B1
    have hwl1 := hwl.kt kt1
    obtain ⟨us, hwa, hus⟩ := hwl1
    have ul : us.length = wl.length := hus.length
    refine ⟨_, rfl, wa, rfl, ⟨_, SqT.of hwa⟩, fun D1 hD1 => ?_⟩
    refine lc_fm walk_tup (fun i => (wl[i]?).bind fun e => if e.1 ∈ row then none else some (nv e.2)) hD1 (by omega) (fun H' k => SqT.of (k _ _ hwa)) yAt_same (fun i x H0 H' R N hi k y r1 r2 => ?_) (fun H2 k2 hl2 => ?_)
    · obtain ⟨e, he, b, rfl, hb⟩ := hus.get' y.2
      refine ⟨_, _, rfl, SqT.of (k _ _ hb), rfl, _, _, rfl, _, _, rfl, rfl, rfl, ?_⟩
      refine ⟨_, rfl, _, rfl, rr, _, rfl, .inr (SqT.of (k _ _ e1)), rfl, flat_nv _, _, rfl, ?_⟩
      rw [if_pos rfl, inV_nv]
      by_cases hz : e.1 ∈ row
      · rw [decide_eq_true hz]
        exact iteF (r2 (by rw [he]; exact if_pos hz) _ (Same.refl _))
      · rw [decide_eq_false hz]
        exact iteT ⟨_, rfl, r1 _ _ (by rw [he]; exact if_neg hz) (Same.refl _)⟩
    rw [ul, fm_bind, fm_of] at hl2
    generalize eh : (wl.filter fun e => !decide (e.1 ∈ row)).map (fun e => e.2) = held at hl2
    have hheld : ∀ j, j ∈ held ↔ ∃ e ∈ wl, e.2 = j ∧ e.1 ∉ row := fun j => by
      rw [← eh, List.mem_map]
      constructor
      · rintro ⟨e, he, rfl⟩
        rw [List.mem_filter] at he
        exact ⟨e, he.1, rfl, by simpa using he.2⟩
      · rintro ⟨e, he, rfl, h1⟩
        exact ⟨e, List.mem_filter.mpr ⟨he, by simpa using h1⟩, rfl⟩
    refine ⟨_, rfl, (n : Int), rfl, by omega, by omega, fun D2 hD2 => ?_⟩
    refine lc_fm (walk_range (lo := 0) (n := n)) (fun j => if j ∈ row ∨ j ∈ held then none else some (nv j)) hD2 (by omega) (fun H' k => trivial) yFn_same (fun i x H0 H' R N hi k y r1 r2 => ?_) (fun H3 k3 hl3 => ?_)
    · obtain ⟨_, ex⟩ := y
      have ei : x = nv i := by rw [ex]; unfold nv; show V.int (0 + (i : Nat)) = _; congr 1; omega
      subst ei
      refine ⟨rfl, ?_⟩
      refine ⟨_, rfl, _, rfl, rr, _, rfl, .inr (SqT.of (k _ _ (k2 _ _ e1))), rfl, flat_nv _, _, rfl, ?_⟩
      rw [if_pos rfl, inV_nv]
      by_cases hz : i ∈ row
      · rw [decide_eq_true hz]
        exact iteF (iteF (r2 (if_pos (.inl hz)) _ (Same.refl _)))
      · rw [decide_eq_false hz]
        refine iteT ?_
        refine ⟨_, rfl, _, rfl, D1, _, rfl, .inl (SqL.of (k _ _ hl2)), rfl, flat_nv _, _, rfl, ?_⟩
        rw [if_pos rfl, inV_nv]
        by_cases hz2 : i ∈ held
        · rw [decide_eq_true hz2]
          exact iteF (r2 (if_pos (.inr hz2)) _ (Same.refl _))
        · rw [decide_eq_false hz2]
          exact iteT ⟨_, rfl, r1 _ _ (if_neg fun z => z.elim hz hz2) (Same.refl _)⟩
    have e3 := fm_of (fun j => j ∈ row ∨ j ∈ held) (fun j => j) (List.range n)
    rw [e3, List.map_id'] at hl3
    generalize es : (List.range n).filter (fun j => !decide (j ∈ row ∨ j ∈ held)) = sl at hl3
    have hsl : ∀ j, j ∈ sl ↔ j < n ∧ j ∉ row ∧ j ∉ held := fun j => by
      rw [← es, List.mem_filter, List.mem_range]
      simp
    obtain ⟨j0, j1, j2, j3⟩ := some_free hrk (row := row) (by omega)
    have hm : j0 ∈ sl := (hsl j0).mpr ⟨j1, j2, fun z => by
      obtain ⟨e, he, h1, h2⟩ := (hheld j0).mp z
      exact h2 (j3 e he h1)⟩
    have slp := List.length_pos_of_mem hm
    have sln : sl.length ≤ n := by
      rw [← es]
      have := List.length_filter_le (fun j => !decide (j ∈ row ∨ j ∈ held)) (List.range n)
      rw [List.length_range] at this
      exact this
    have k13 := k2.trans k3
    have ll : (sl.map nv).length = sl.length := List.length_map _
    refine ⟨_, rfl, _, rfl, _, rfl, _, rfl, D2, _, rfl, .inl (SqL.of hl3), t, tl, ((sl.map nv).length : Nat), rfl, hT1.same k13, by omega, by omega, fun r H4 ra rb b4 hT4 => ?_⟩
    have kt4 := (hT1.same k13).kt b4
    obtain ⟨k, rfl⟩ : ∃ k : Nat, r = (k : Int) := ⟨r.toNat, by omega⟩
    have hk : k < sl.length := by omega
    obtain ⟨xx, ek⟩ : ∃ xx, sl[k]? = some xx := ⟨_, List.getElem?_eq_getElem hk⟩
    have mk := (hsl _).mp (List.mem_of_getElem? ek)
    have hD2t : D2 ≠ t := (hT1.same k2).ne hD2
    refine ⟨D2, _, (k : Int), nv xx, rfl, rfl, SqL.of (b4 _ _ hD2t hl3), atI_nat (by rw [List.getElem?_map, ek] <;> rfl), ?_⟩
    refine ⟨(by show 1 ≤ sizeLine; decide), fun p5 hp5 => ?_⟩
    have e4 : H4 rr = some (.tup (row.map nv)) := kt4 _ _ (k13 _ _ e1)
    have rr5 : rr ≠ p5 := ne_of_none e4 hp5
    have B4 : But t H H4 := (B1.trans (But.same k13)).trans b4
    have k5 : Same H4 (upd H4 p5 (.tup [nv xx])) := same_new hp5
    have nx : ∀ (q5 : Addr) (H5 : Hp), Same H4 H5 → H5 q5 = some (.tup ((row ++ [xx]).map nv)) → But t H H5 ∧ TapeV H5 t tl ∧ ∃ (rr : Addr) (row : List Nat), H5 rr = some (.tup (row.map nv)) ∧ row.length = i + 1 ∧ row.Nodup ∧ (∀ j ∈ row, j < n) ∧ PreK wl row ∧ ∃ x y z, [some (V.ref t), some (nv n), some (.ref wa), some (.ref q5), some (nv i), some (.ref D1), some (.ref D2), none, none, none] = [some (.ref t), some (nv n), some (.ref wa), some (.ref rr), x, y, z, none, none, none] := fun q5 H5 kk e5 => by
      refine ⟨B4.trans (But.same kk), hT4.same kk, q5, row ++ [xx], e5, by rw [List.length_append, rl] <;> rfl, ?_, ?_, pk.snoc mk.2.1 fun e he h2 => ?_, _, _, _, rfl⟩
      · refine List.nodup_append.mpr ⟨rnd, by simp, fun x hx y hy z => ?_⟩
        rw [List.mem_singleton] at hy
        subst hy
        subst z
        exact mk.2.1 hx
      · intro j hj
        rcases List.mem_append.mp hj with z | z
        · exact rlt j z
        · rw [List.mem_singleton.mp z]
          exact mk.1
      · exact Classical.byContradiction fun h1 => mk.2.2 ((hheld _).mpr ⟨e, he, h2, h1⟩)
    have xi : V.int (0 + (i : Nat)) = nv i := by unfold nv; congr 1; omega
    rw [xi]
    refine ⟨rr, p5, _, _, rfl, rfl, SqT.of (by rw [upd_ne rr5]; exact e4), SqT.of upd_same, ?_, fun z => ?_, fun _ z => (by cases z), fun z1 z2 q6 hq6 => ?_⟩
    · rw [List.length_map, rl]
      exact lst_len (by omega)
    · have : row = [] := by simpa using z
      subst this
      exact nx p5 _ k5 upd_same
    · exact nx q6 _ (k5.trans (same_new hq6)) (by rw [upd_same, List.map_append] <;> rfl)
  · obtain ⟨B1, hT1, rr, row, e1, rl, rnd, rlt, pk, x0, y0, z0, rfl⟩ := h
    have pm := perm_range rnd rlt rl
    exact ⟨_, rfl, q rr H1 row B1 hT1 e1 pm (pk.keeps pm hrk)⟩
end
end NW
/-! k67 by hand, 20: the law's orders -/
namespace NW
open PySem PySem.Spec PyProof.Rows L2
theorem cutL (xs : List V) (k : Nat) (h : k ≤ xs.length) : cutV xs none (some (k : Int)) = xs.take k := by
  unfold cutV
  have h1 : HT.sIx xs.length 0 none = 0 := rfl
  have h2 : HT.sIx xs.length xs.length (some (k : Int)) = min k xs.length := HT.sIx_nat xs.length xs.length k
  rw [h1, h2, Nat.min_eq_left h]
  simp
theorem cut_whole {xs : List V} {lo hi : Option Int} (h : HT.sIx xs.length 0 lo = 0 ∧ HT.sIx xs.length xs.length hi = xs.length) : cutV xs lo hi = xs := by
  unfold cutV
  rw [h.1, h.2]
  simp
theorem sqT_same {K : PySem.W.Frag} {H H' : Hp} {a : Addr} {xs : List V} (k : Same H H') (h : SqT K H a xs) : SqT K H' a xs := by
  rcases h with (h | ⟨o, h⟩) | h
  · exact .inl (.inl (k _ _ h))
  · exact .inl (.inr ⟨o, k _ _ h⟩)
  · exact .inr h
/-- a part of a tuple, the whole or not -/
theorem sl_any {K : PySem.W.Frag} {H : Hp} {a : Addr} {xs : List V} {lo hi : Option Int} {Q : VK} (ha : SqT K H a xs) (h : ∀ b H1, Same H H1 → SqT K H1 b (cutV xs lo hi) → Q (.ref b) H1) : rSlA K (.ref a) lo hi H Q :=
  ⟨a, xs, rfl, ha, fun w => h a H (Same.refl _) (by rw [cut_whole w]; exact ha), fun _ p hp => h p _ (same_new hp) (SqT.of upd_same)⟩
def FzA (H : Hp) (b : Addr) (l : List Nat) : Prop := ∃ o, H b = some (.frz o (.tup (l.map nv))) ∧ o.dict = none
theorem cat_fz {K : PySem.W.Frag} {H : Hp} {a b : Addr} {l m : List Nat} {Q : VK} (ha : SqT K H a (l.map nv)) (hb : SqT K H b (m.map nv)) (h0 : l = [] → FzA H b m) (h1 : l ≠ [] → m = [] → FzA H a l) (hz : l.length + m.length ≤ 100000)
    (h : ∀ v H1, Same H H1 → FzA H1 v (l ++ m) → Q (.ref v) H1) : rCatF K (.ref a) (.ref b) H Q := by
  refine ⟨a, b, _, _, rfl, rfl, ha, hb, by rw [List.length_map, List.length_map, sizeLine_eq]; omega, fun z => ?_, fun z1 z2 => ?_, fun _ _ p o hp ho => ?_⟩
  · have z' : l = [] := by simpa using z
    have := h0 z'
    subst z'
    exact h b H (Same.refl _) this
  · have z1' : l ≠ [] := fun w => z1 (by rw [w]; rfl)
    have z2' : m = [] := by simpa using z2
    have := h1 z1' z2'
    subst z2'
    exact h a H (Same.refl _) (by rw [List.append_nil]; exact this)
  · exact h p _ (same_new hp) ⟨o, by rw [upd_same, List.map_append], ho⟩
/-- a row with j put in at k -/
def put (j : Nat) (row : List Nat) (k : Nat) : List Nat := row.take k ++ j :: row.drop k
def puts (j : Nat) (row : List Nat) : List (List Nat) := (List.range (row.length + 1)).map (put j row)
theorem put_perm {j : Nat} {row : List Nat} (h : row.Perm (List.range j)) (k : Nat) : (put j row k).Perm (List.range (j + 1)) := by
  unfold put
  rw [List.range_succ]
  refine List.perm_middle.trans ?_
  rw [List.take_append_drop]
  exact (List.Perm.cons j h).trans (List.perm_append_comm (l₁ := [j]) (l₂ := List.range j))
theorem puts_all {j : Nat} {rows : List (List Nat)} (h : ∀ row, row ∈ rows ↔ row.Perm (List.range j)) (row : List Nat) : row ∈ rows.flatMap (puts j) ↔ row.Perm (List.range (j + 1)) := by
  rw [List.mem_flatMap]
  constructor
  · rintro ⟨r, hr, h2⟩
    unfold puts at h2
    rw [List.mem_map] at h2
    obtain ⟨k, _, rfl⟩ := h2
    exact put_perm ((h r).mp hr) k
  · intro hp
    have hj : j ∈ row := hp.mem_iff.mpr (List.mem_range.mpr (by omega))
    obtain ⟨a, b, rfl⟩ := List.append_of_mem hj
    have h1 : (j :: (a ++ b)).Perm (j :: List.range j) := List.perm_middle.symm.trans (hp.trans (by rw [List.range_succ]; exact List.perm_append_comm))
    refine ⟨a ++ b, (h _).mpr (List.Perm.cons_inv h1), ?_⟩
    unfold puts
    rw [List.mem_map]
    refine ⟨a.length, List.mem_range.mpr (by rw [List.length_append]; omega), ?_⟩
    unfold put
    simp
theorem flat_len {f : List Nat → List (List Nat)} {m : Nat} : ∀ (l : List (List Nat)), (∀ x ∈ l, (f x).length ≤ m) → (l.flatMap f).length ≤ m * l.length
  | [], _ => by simp
  | x :: r, h => by
    have ih := flat_len (f := f) (m := m) r fun y hy => h y (List.mem_cons_of_mem _ hy)
    have := h x (List.mem_cons_self ..)
    rw [List.flatMap_cons, List.length_append, List.length_cons, Nat.mul_add]
    omega
section
variable {P : Program} {w : World} {K : PySem.W.Frag} {mg : Str → Option Value} {base : Heap}
abbrev s_orders : Stmt := top 50
theorem sc_orders : FnScope ["_law_tape_here", "_law_many", "_law_wishes", "_law_found", "_law_j", "_law_wider", "_law_row_here", "_law_at", "_law_k"] ["_law_tape_here", "_law_many", "_law_wishes"] (defScope s_orders) := ⟨rfl, rfl, rfl, by decide +kernel, rfl, by decide +kernel, by decide +kernel⟩
/-- an order with all the wishes -/
def OrdV (n : Nat) (wl : List (Nat × Nat)) (H : Hp) (v : V) : Prop := ∃ (b : Addr) (o : List Nat), v = .ref b ∧ Rd H b (.tup (o.map nv)) ∧ o.Perm (List.range n) ∧ Keeps wl o
def sp_orders : Sp := fun vs H Q _ => ∃ (t tl wa : Addr) (n : Nat) (wl : List (Nat × Nat)) (rk : Nat → Nat), vs = [.ref t, nv n, .ref wa] ∧ TapeV H t tl ∧ 1 ≤ n ∧ n ≤ 8 ∧ Wsh H wa wl ∧ wl.length ≤ 8 ∧ Ranked wl rk n ∧ (∃ row : List Nat, row.Perm (List.range n) ∧ Keeps wl row) ∧
  ∀ (r : Addr) (H' : Hp) (us : List V), But t H H' → TapeV H' t tl → H' r = some (.lst us) → us ≠ [] → us.length ≤ 50000 → (∀ v ∈ us, OrdV n wl H' v) → Q (.ref r) H'
theorem r_orders (D : Df K mg "_law_orders" s_orders) (T : Bi mg) (R_law_drawn : Rdy P w K mg base "_law_drawn" 2 ["_law_tape_here", "_law_many", "_law_wishes"] sp_drawn) (R_law_wished : Rdy P w K mg base "_law_wished" 1 ["_law_row_here", "_law_wishes"] sp_wished) :
    Rdy P w K mg base "_law_orders" 3 ["_law_tape_here", "_law_many", "_law_wishes"] sp_orders := by
  refine rdy D sc_orders (fun _ _ _ _ _ _ us hl => match us, hl with | [_, _, _], _ => rfl) (fun vs H Q E h => ?_) (fun f cdv A outer s H vs Q E hr h => ?_)
  · obtain ⟨t, tl, wa, n, wl, rk, rfl, _⟩ := h
    rfl
  obtain ⟨t, tl, wa, n, wl, rk, rfl, hT, n1, n8, hwl, w8, hrk, hex, q⟩ := h
  refine ⟨_, (pss_cons (ps_if (pt_cmpR op_gt (pv 1) pe_int (nomark _)) (pss_one (ps_ret (pe_lc (own := [("_law_k", 8)]) rfl sc_orders.nd (pi_range1 rfl T.b_range (pa_cons pe_int pa_nil)) (blkOk_by (N := ["_law_tape_here", "_law_many", "_law_wishes", "_law_found", "_law_j", "_law_wider", "_law_row_here", "_law_at", "_law_k"]) (sc := defScope s_orders) (by decide +kernel)) (fun _ _ _ _ _ => (pg_name (i := 8) sc_orders.nd rfl (Or.inl rfl) (Or.inr rfl))) (fun _ _ _ _ _ => pts_nil) (fun _ _ _ _ _ => (pe_cl R_law_drawn (hr.mono (by decide)) (pa_cons (pv 0) (pa_cons (pv 1) (pa_cons (pv 2) pa_nil)))))))) pss_nil)
    (pss_cons (ps_set (i := 3) sc_orders.nd rfl (Or.inl rfl) (pe_lst (pa_cons (pe_tupF pa_nil) pa_nil)))
    (pss_cons (ps_for PassesOwn.never rfl (pi_range1 rfl T.b_range (pa_cons (pv 1) pa_nil)) (pg_name (i := 4) sc_orders.nd rfl (Or.inl rfl))
      (pss_cons (ps_set (i := 5) sc_orders.nd rfl (Or.inl rfl) (pe_lst pa_nil))
      (pss_cons (ps_for PassesOwn.never rfl (pi_list (pv 3)) (pg_name (i := 6) sc_orders.nd rfl (Or.inl rfl))
        (pss_one (ps_for PassesOwn.never rfl (pi_range1 rfl T.b_range (pa_cons (pe_op op_add (pe_callB call_len_seq rfl T.b_len PySem.boot_len (pa_cons (pv 6) pa_nil)) pe_int) pa_nil)) (pg_name (i := 7) sc_orders.nd rfl (Or.inl rfl))
          (pss_one (ps_expr (pe_bm PySem.F.plainAttrs_list PySem.F.slot_list_append PySem.F.type_list_append mt_append (pv 5) (pa_cons (pe_op op_catF (pe_op op_catF (pe_slice sl_tupA (pv 6) po_none (po_some (pv 7))) (pe_tupF (pa_cons (pv 4) pa_nil))) (pe_slice sl_tupA (pv 6) (po_some (pv 7)) po_none)) pa_nil)))))))
      (pss_one (ps_set (i := 3) sc_orders.nd rfl (Or.inl rfl) (pv 5))))))
    (pss_one (ps_ret (pe_lc (own := [("_law_row_here", 6)]) rfl sc_orders.nd (pi_list (pv 3)) (blkOk_by (N := ["_law_tape_here", "_law_many", "_law_wishes", "_law_found", "_law_j", "_law_wider", "_law_row_here", "_law_at", "_law_k"]) (sc := defScope s_orders) (by decide +kernel)) (fun _ _ _ _ _ => (pg_name (i := 6) sc_orders.nd rfl (Or.inl rfl) (Or.inr rfl))) (fun _ _ _ _ _ => pts_one (pt_val (pe_cl R_law_wished (hr.mono (by decide)) (pa_cons (pv 6) (pa_cons (pv 2) pa_nil))))) (fun _ _ _ _ _ => (pv 6)))))))), ?_⟩
  refine ⟨_, rfl, _, _, rfl, rfl, _, rfl, ?_⟩
  refine ite2 (fun c => ?_) (fun c => ?_)
  · refine ⟨_, rfl, by decide, by decide, fun D0 hD0 => ?_⟩
    have hD0t := hT.ne hD0
    have hD0l := hT.ne2 hD0
    refine lc_range (lo := 0) (n := 24) (fun i H' => But t H H' ∧ TapeV H' t tl ∧ ∃ us, H' D0 = some (.lst us) ∧ us.length = i ∧ ∀ v ∈ us, ∃ (b : Addr) (o : List Nat), v = .ref b ∧ H' b = some (.tup (o.map nv)) ∧ o.Perm (List.range n) ∧ Keeps wl o)
      ⟨But.same (same_new hD0), hT.same (same_new hD0), [], upd_same, rfl, fun _ h => absurd h List.not_mem_nil⟩ (fun i H1 hi h => ?_) (fun H1 h => ?_)
    · obtain ⟨B1, hT1, us, e1, ul, hus⟩ := h
      have kt1 := hT.kt B1
      refine ⟨rfl, yes (iteT ?_)⟩
      refine ⟨_, rfl, _, rfl, _, rfl, t, tl, wa, n, wl, rk, rfl, hT1, n8, hwl.kt kt1, w8, hrk, fun r H2 row b2 hT2 e2 pm kp => ?_⟩
      have kt2 := hT1.kt b2
      refine ⟨us, b2 _ _ hD0t e1, lst_len (by omega), ?_⟩
      have ru : r ≠ D0 := ne_of e2 (b2 _ _ hD0t e1) (by intro z; cases z)
      refine ⟨fun b o nb hb => ?_, hT2.upd hD0t hD0l, us ++ [.ref r], upd_same, by rw [List.length_append, ul] <;> rfl, fun v hv => ?_⟩
      · rw [upd_ne (ne_of_none hb hD0)]
        exact b2 _ _ nb (B1 _ _ nb hb)
      · rcases List.mem_append.mp hv with z | z
        · obtain ⟨b, o, rfl, h1, h2, h3⟩ := hus v z
          have h1' := kt2 _ _ h1
          exact ⟨b, o, rfl, by rw [upd_ne (ne_of h1' (b2 _ _ hD0t e1) (by intro z; cases z))]; exact h1', h2, h3⟩
        · rw [List.mem_singleton] at z
          subst z
          exact ⟨r, row, rfl, by rw [upd_ne ru]; exact e2, pm, kp⟩
    · obtain ⟨B1, hT1, us, e1, ul, hus⟩ := h
      refine q D0 H1 us B1 hT1 e1 (fun z => by rw [z] at ul; cases ul) (by omega) fun v hv => ?_
      obtain ⟨b, o, rfl, h1, h2, h3⟩ := hus v hv
      exact ⟨b, o, rfl, .inl h1, h2, h3⟩
  · have c' : ¬ (n : Int) > 5 := of_decide_eq_false (Bool.eq_false_iff.mpr c)
    refine ⟨(by show 0 ≤ sizeLine; decide), fun p0 o0 hp0 ho0 => ⟨(by show 1 ≤ sizeLine; decide), fun l0 hl0 => ?_⟩⟩
    refine ⟨_, rfl, (n : Int), rfl, by omega, by omega, ?_⟩
    have k0 : Same H (upd (upd H p0 (.frz o0 (.tup []))) l0 (.lst [.ref p0])) := (same_new hp0).trans (same_new hl0)
    refine for_range (n := n) (fun j σ H' => Same H H' ∧ ∃ (fa : Addr) (us : List V) (rows : List (List Nat)) , H' fa = some (.lst us) ∧ All2 (FzV H') us rows ∧ (∀ row, row ∈ rows ↔ row.Perm (List.range j)) ∧ rows.length ≤ 5 ^ j ∧ ∃ x y z u, σ = [some (.ref t), some (nv n), some (.ref wa), some (.ref fa), x, y, z, u, none])
      ⟨k0, l0, [.ref p0], [[]], upd_same, .cons ⟨p0, o0, rfl, by rw [upd_ne (ne_of_none upd_same hl0)]; exact upd_same, ho0⟩ .nil, fun row => ?_, Nat.le_refl _, none, none, none, none, rfl⟩ (fun j σ H1 hj h => ?_) (fun σ H1 h => ?_)
    · simp
    · obtain ⟨k1, fa, us, rows, e1, a1, hrows, hlen, x0, y0, z0, u0, rfl⟩ := h
      have xj : V.int (0 + (j : Nat)) = nv j := by unfold nv; congr 1; omega
      rw [xj]
      have hr5 : rows.length ≤ 5 ^ 4 := Nat.le_trans hlen (Nat.pow_le_pow_right (by decide) (by omega))
      have hr5' : rows.length ≤ 625 := hr5
      refine ⟨(by show 0 ≤ sizeLine; decide), fun l1 hl1 => ?_⟩
      have hl1H := k1.free hl1
      have fl : fa ≠ l1 := ne_of_none e1 hl1
      have s1 : Same H1 (upd H1 l1 (.lst [])) := same_new hl1
      refine ⟨_, rfl, fa, rfl, ⟨_, SqL.of (s1 _ _ e1)⟩, ?_⟩
      refine for_list (fun i σ H' => Same H H' ∧ H' fa = some (.lst us) ∧ All2 (FzV H') us rows ∧ (∃ ws, H' l1 = some (.lst ws) ∧ All2 (FzV H') ws ((rows.take i).flatMap (puts j))) ∧ ∃ z u, σ = [some (.ref t), some (nv n), some (.ref wa), some (.ref fa), some (nv j), some (.ref l1), z, u, none])
        ⟨k1.trans s1, s1 _ _ e1, a1.imp fun _ _ => FzV.same s1, ⟨[], upd_same, by rw [List.take_zero]; exact .nil⟩, _, _, rfl⟩ (fun i σ H' _ h => SqL.of h.2.1) (fun i x σ H2 hx h => ?_) (fun σ H2 h => ?_)
      · obtain ⟨k2, e2, a2, ⟨ws, e3, a3⟩, z1, u1, rfl⟩ := h
        obtain ⟨row, hrow, rb, ro, rfl, hrb, hrd⟩ := a2.get' hx
        have hpm := (hrows row).mp (List.mem_of_getElem? hrow)
        have rl : row.length = j := by rw [hpm.length_eq, List.length_range]
        have il : i < rows.length := (List.getElem?_eq_some_iff.mp hrow).1
        have wl3 := a3.length
        have fl3 : ((rows.take i).flatMap (puts j)).length ≤ 5 * (rows.take i).length := flat_len _ fun y hy => by
          have := ((hrows y).mp (List.mem_of_mem_take hy)).length_eq
          rw [List.length_range] at this
          unfold puts
          rw [List.length_map, List.length_range]
          omega
        have tl3 : (rows.take i).length ≤ rows.length := by rw [List.length_take]; omega
        refine ⟨_, rfl, rb, _, rfl, .inr (.inl (.inr ⟨_, hrb⟩)), _, _, rfl, rfl, ((row.length + 1 : Nat) : Int), by rw [List.length_map] <;> rfl, by omega, by omega, ?_⟩
        refine for_range (n := row.length + 1) (fun k σ H' => Same H H' ∧ H' fa = some (.lst us) ∧ All2 (FzV H') us rows ∧ H' rb = some (.frz ro (.tup (row.map nv))) ∧ (∃ ws, H' l1 = some (.lst ws) ∧ All2 (FzV H') ws ((rows.take i).flatMap (puts j) ++ (List.range k).map (put j row))) ∧ ∃ u, σ = [some (.ref t), some (nv n), some (.ref wa), some (.ref fa), some (nv j), some (.ref l1), some (.ref rb), u, none])
          ⟨k2, e2, a2, hrb, ⟨ws, e3, by rw [List.range_zero, List.map_nil, List.append_nil]; exact a3⟩, _, rfl⟩ (fun k σ H3 hk h => ?_) (fun σ H3 h => ?_)
        · obtain ⟨k3, e4, a4, hrb3, ⟨ws3, e5, a5⟩, u3, rfl⟩ := h
          have xk : V.int (0 + (k : Nat)) = nv k := by unfold nv; congr 1; omega
          rw [xk]
          refine ⟨_, rfl, .inl ⟨rfl, _, SqL.of e5⟩, ?_⟩
          refine ⟨_, rfl, _, rfl, (k : Int), rfl, ?_⟩
          refine sl_any (.inl (.inr ⟨_, hrb3⟩)) fun b4 H4 s4 hb4 => ?_
          rw [cutL _ _ (by rw [List.length_map]; omega), ← List.map_take] at hb4
          refine ⟨_, rfl, (by show 1 ≤ sizeLine; decide), fun b5 o5 hb5 ho5 => ?_⟩
          have s5 : Same H4 (upd H4 b5 (.frz o5 (.tup [nv j]))) := same_new hb5
          have tkl : (row.take k).length ≤ row.length := by rw [List.length_take]; omega
          refine cat_fz (l := row.take k) (m := [j]) (sqT_same s5 hb4) (.inl (.inr ⟨_, upd_same⟩)) (fun _ => ⟨_, upd_same, ho5⟩) (fun _ z => (by cases z)) (by simp only [List.length_singleton]; omega) fun b6 H6 s6 hb6 => ?_
          have s36 := s4.trans (s5.trans s6)
          refine ⟨_, rfl, _, rfl, (k : Int), rfl, ?_⟩
          dsimp only [tNoPart]
          refine sl_any (.inl (.inr ⟨_, s36 _ _ hrb3⟩)) fun b7 H7 s7 hb7 => ?_
          rw [cutK _ _ (by rw [List.length_map]; omega), ← List.map_drop] at hb7
          obtain ⟨o6, h6, d6⟩ := hb6
          have dkl : (row.drop k).length ≤ row.length := by rw [List.length_drop]; omega
          refine cat_fz (l := row.take k ++ [j]) (m := row.drop k) (.inl (.inr ⟨_, s7 _ _ h6⟩)) hb7 (fun z => (by simp at z)) (fun _ _ => ⟨_, s7 _ _ h6, d6⟩) (by rw [List.length_append]; simp only [List.length_singleton]; omega) fun b8 H8 s8 hb8 => ?_
          have s38 := s36.trans (s7.trans s8)
          have e8 := s38 _ _ e5
          have w3l := a5.length
          rw [List.length_append, List.length_map, List.length_range] at w3l
          refine ⟨l1, _, _, rfl, rfl, e8, lst_len (by omega), ?_⟩
          have ep : (row.take k ++ [j]) ++ row.drop k = put j row k := by unfold put; simp
          rw [ep] at hb8
          obtain ⟨o8, h8, d8⟩ := hb8
          refine ⟨fun b o hb => ?_, ?_, ?_, ?_, ⟨ws3 ++ [.ref b8], upd_same, ?_⟩, _, rfl⟩
          · rw [upd_ne (ne_of_none hb hl1H)]
            exact s38 _ _ (k3 _ _ hb)
          · rw [upd_ne fl]
            exact s38 _ _ e4
          · exact a4.imp fun _ _ h => (h.same s38).lst e8
          · rw [upd_ne (ne_of (s38 _ _ hrb3) e8 (by intro z; cases z))]
            exact s38 _ _ hrb3
          · rw [List.range_succ, List.map_append, ← List.append_assoc]
            exact (a5.imp fun _ _ h => (h.same s38).lst e8).snoc (FzV.lst e8 ⟨b8, o8, rfl, h8, d8⟩)
        · obtain ⟨k3, e4, a4, hrb3, ⟨ws3, e5, a5⟩, u3, rfl⟩ := h
          refine ⟨k3, e4, a4, ⟨ws3, e5, ?_⟩, _, _, rfl⟩
          rw [take_snoc hrow, List.flatMap_append]
          have e : ([row] : List (List Nat)).flatMap (puts j) = puts j row := by simp
          rw [e]
          exact a5
      · obtain ⟨k2, e2, a2, ⟨ws, e3, a3⟩, z1, u1, rfl⟩ := h
        rw [a1.length, List.take_length] at a3
        refine ⟨_, rfl, ?_⟩
        refine ⟨k2, l1, ws, _, e3, a3, puts_all hrows, ?_, _, _, _, _, rfl⟩
        have : (rows.flatMap (puts j)).length ≤ 5 * rows.length := flat_len _ fun y hy => by
          have := ((hrows y).mp hy).length_eq
          rw [List.length_range] at this
          unfold puts
          rw [List.length_map, List.length_range]
          omega
        rw [Nat.pow_succ]
        omega
    · obtain ⟨k1, fa, us, rows, e1, a1, hrows, hlen, x0, y0, z0, u0, rfl⟩ := h
      have hr5 : rows.length ≤ 5 ^ 5 := Nat.le_trans hlen (Nat.pow_le_pow_right (by decide) (by omega))
      have hr5' : rows.length ≤ 3125 := hr5
      have ul := a1.length
      refine ⟨_, rfl, fa, rfl, ⟨_, SqL.of e1⟩, fun D0 hD0 => ?_⟩
      refine lc_fm walk_list (fun i => (rows[i]?).bind fun row => if Keeps wl row then us[i]? else none) hD0 (by omega) (fun H' k => SqL.of (k _ _ e1)) yAt_same (fun i x H0 H' R N hi k y r1 r2 => ?_) (fun H2 k2 hl2 => ?_)
      · obtain ⟨row, hrow, hv⟩ := a1.get' y.2
        have hpm := (hrows row).mp (List.mem_of_getElem? hrow)
        refine ⟨rfl, ?_⟩
        refine ⟨_, rfl, _, rfl, x, row, wa, wl, rfl, hv.same k, hwl.kt (KT.same (k1.trans k)), w8, fun e he => ?_, fun H3 k3 => ?_⟩
        · have h1 := hrk.lt e he
          exact ⟨hpm.mem_iff.mpr (List.mem_range.mpr h1.1), hpm.mem_iff.mpr (List.mem_range.mpr h1.2)⟩
        refine ⟨_, rfl, ?_⟩
        by_cases hz : Keeps wl row
        · rw [decide_eq_true hz]
          exact iteT ⟨_, rfl, r1 _ _ (by rw [hrow]; show (if Keeps wl row then us[i]? else none) = _; rw [if_pos hz]; exact y.2) k3⟩
        · rw [decide_eq_false hz]
          exact iteF (r2 (by rw [hrow]; exact if_neg hz) _ k3)
      generalize ef : (List.range us.length).filterMap (fun i => (rows[i]?).bind fun row => if Keeps wl row then us[i]? else none) = fs at hl2
      have k12 := k1.trans k2
      refine q D0 H2 fs (But.same k12) (hT.same k12) hl2 (fun z => ?_) ?_ fun v hv => ?_
      · obtain ⟨row, pm, kp⟩ := hex
        obtain ⟨i, hi⟩ := List.getElem?_of_mem ((hrows row).mpr pm)
        obtain ⟨v, hv, _⟩ := a1.get hi
        have : v ∈ fs := by
          rw [← ef, List.mem_filterMap]
          exact ⟨i, List.mem_range.mpr (List.getElem?_eq_some_iff.mp hv).1, by rw [hi]; show (if Keeps wl row then us[i]? else none) = _; rw [if_pos kp]; exact hv⟩
        rw [z] at this
        exact absurd this List.not_mem_nil
      · rw [← ef]
        have := fm_len (f := fun i => (rows[i]?).bind fun row => if Keeps wl row then us[i]? else none) (i := us.length)
        omega
      · rw [← ef, List.mem_filterMap] at hv
        obtain ⟨i, _, e⟩ := hv
        cases hrow : rows[i]? with
        | none => rw [hrow] at e; cases e
        | some row =>
          rw [hrow] at e
          have e' : (if Keeps wl row then us[i]? else none) = some v := e
          by_cases hz : Keeps wl row
          · rw [if_pos hz] at e'
            obtain ⟨row', h1, h2⟩ := a1.get' e'
            rw [hrow] at h1
            cases h1
            obtain ⟨b, hb1, hb2⟩ := (h2.same k2).rd
            exact ⟨b, row, hb1, hb2, (hrows row).mp (List.mem_of_getElem? hrow), hz⟩
          · rw [if_neg hz] at e'
            cases e'
end
end NW
/-! k67 by hand, 21: the law in plain numbers -/
namespace NW
open PySem PySem.Spec PyProof.Rows L2
theorem idx_get {l : List Nat} (hn : l.Nodup) {m z : Nat} (h : l[m]? = some z) : l.idxOf z = m := by
  obtain ⟨hl, he⟩ := List.getElem?_eq_some_iff.mp h
  have h1 := idx_le l m z h
  have hz : z ∈ l := List.mem_of_getElem? h
  have h2 := List.idxOf_lt_length_iff.mpr hz
  refine Classical.byContradiction fun hc => ?_
  have h3 : l[l.idxOf z] = z := List.getElem_idxOf h2
  have h4 := (List.getElem_inj hn (i := l.idxOf z) (j := m) (h₀ := h2) (h₁ := hl)).mp (by rw [h3, he])
  exact hc h4
/-! ### the wishes of the law -/
structure MoreOk (row : List Nat) (i : Nat) (more : List (Nat × Nat)) : Prop where
  ok : ∀ e ∈ more, e.1 ∈ row ∧ e.2 ∈ row ∧ row.idxOf e.1 < row.idxOf e.2 ∧ 4 ≤ row.idxOf e.2 ∧ row.idxOf e.2 < i
  nd : (more.map (·.2)).Nodup
  len : more.length + 4 ≤ i
theorem MoreOk.skip {row : List Nat} {i : Nat} {more : List (Nat × Nat)} (h : MoreOk row i more) : MoreOk row (i + 1) more :=
  ⟨fun e he => by
    have q := h.ok e he
    exact ⟨q.1, q.2.1, q.2.2.1, q.2.2.2.1, by have := q.2.2.2.2; omega⟩, h.nd, by have := h.len; omega⟩
theorem MoreOk.snoc {row : List Nat} {i x u v : Nat} {more : List (Nat × Nat)} (h : MoreOk row i more) (hn : row.Nodup) (h4 : 4 ≤ i) (hx : x < i) (h1 : row[x]? = some u) (h2 : row[i]? = some v) : MoreOk row (i + 1) (more ++ [(u, v)]) := by
  have e1 := idx_get hn h1
  have e2 := idx_get hn h2
  have m1 := List.mem_of_getElem? h1
  have m2 := List.mem_of_getElem? h2
  refine ⟨fun e he => ?_, ?_, by have := h.len; rw [List.length_append, List.length_singleton]; omega⟩
  · rcases List.mem_append.mp he with z | z
    · have q := h.ok e z
      exact ⟨q.1, q.2.1, q.2.2.1, q.2.2.2.1, by have := q.2.2.2.2; omega⟩
    · rw [List.mem_singleton] at z
      subst z
      show u ∈ row ∧ v ∈ row ∧ row.idxOf u < row.idxOf v ∧ 4 ≤ row.idxOf v ∧ row.idxOf v < i + 1
      rw [e1, e2]
      exact ⟨m1, m2, hx, h4, by omega⟩
  · rw [List.map_append]
    refine List.nodup_append.mpr ⟨h.nd, by simp, fun y hy y' hy' z => ?_⟩
    have hy'' : y' = v := by simpa using hy'
    rw [List.mem_map] at hy
    obtain ⟨e, he, rfl⟩ := hy
    have := (h.ok e he).2.2.2.2
    rw [z, hy'', e2] at this
    omega
/-- the N and what hangs behind it -/
structure LawW (row : List Nat) (n a b c d : Nat) (wl : List (Nat × Nat)) : Prop where
  perm : row.Perm (List.range n)
  n4 : 4 ≤ n
  n8 : n ≤ 8
  first : ∃ rest, row = a :: b :: c :: d :: rest
  wish : ∃ more, MoreOk row n more ∧ wl.Perm ([(a, c), (a, d), (b, d)] ++ more)
section
variable {row : List Nat} {n a b c d : Nat} {wl : List (Nat × Nat)}
theorem LawW.nodup (h : LawW row n a b c d wl) : row.Nodup := h.perm.nodup_iff.mpr List.nodup_range
theorem LawW.idx (h : LawW row n a b c d wl) : row.idxOf a = 0 ∧ row.idxOf b = 1 ∧ row.idxOf c = 2 ∧ row.idxOf d = 3 ∧ a ∈ row ∧ b ∈ row ∧ c ∈ row ∧ d ∈ row := by
  have hn := h.nodup
  obtain ⟨rest, e⟩ := h.first
  refine ⟨idx_get hn ?_, idx_get hn ?_, idx_get hn ?_, idx_get hn ?_, ?_, ?_, ?_, ?_⟩ <;> rw [e] <;> simp
theorem LawW.len (h : LawW row n a b c d wl) : wl.length ≤ 8 := by
  obtain ⟨more, hm, hp⟩ := h.wish
  have h1 := hm.len
  have h2 := h.n8
  rw [hp.length_eq, List.length_append]
  simp only [List.length_cons, List.length_nil]
  omega
theorem LawW.up (h : LawW row n a b c d wl) : ∀ e ∈ wl, e.1 ∈ row ∧ e.2 ∈ row ∧ row.idxOf e.1 < row.idxOf e.2 := by
  obtain ⟨more, hm, hp⟩ := h.wish
  obtain ⟨i0, i1, i2, i3, ma, mb, mc, md⟩ := h.idx
  intro e he
  rcases List.mem_append.mp (hp.mem_iff.mp he) with z | z
  · simp only [List.mem_cons, List.not_mem_nil, or_false] at z
    rcases z with rfl | rfl | rfl
    · exact ⟨ma, mc, by show row.idxOf a < row.idxOf c; omega⟩
    · exact ⟨ma, md, by show row.idxOf a < row.idxOf d; omega⟩
    · exact ⟨mb, md, by show row.idxOf b < row.idxOf d; omega⟩
  · have := hm.ok e z
    exact ⟨this.1, this.2.1, this.2.2.1⟩
theorem LawW.keeps (h : LawW row n a b c d wl) : Keeps wl row := fun e he => (h.up e he).2.2
theorem LawW.ranked (h : LawW row n a b c d wl) : Ranked wl (fun j => row.idxOf j) n := by
  have hl : row.length = n := by rw [h.perm.length_eq, List.length_range]
  refine ⟨fun e he => (h.up e he).2.2, fun e he => ?_, fun j hj => ?_⟩
  · have := h.up e he
    exact ⟨List.mem_range.mp (h.perm.mem_iff.mp this.1), List.mem_range.mp (h.perm.mem_iff.mp this.2.1)⟩
  · have : j ∈ row := h.perm.mem_iff.mpr (List.mem_range.mpr hj)
    have := List.idxOf_lt_length_iff.mpr this
    omega
theorem LawW.many (h : LawW row n a b c d wl) : ¬ (wl.map (·.2)).Nodup := by
  obtain ⟨more, hm, hp⟩ := h.wish
  intro hn
  have := (hp.map (·.2)).nodup_iff.mp hn
  simp at this
theorem LawW.few (h : LawW row n a b c d wl) {L : Nat × Nat} (hL : L = (b, d) ∨ L = (a, d)) : ((wl.filter fun e => !decide (e = L)).map (·.2)).Nodup := by
  obtain ⟨more, hm, hp⟩ := h.wish
  obtain ⟨i0, i1, i2, i3, ma, mb, mc, md⟩ := h.idx
  have p := (hp.filter fun e => !decide (e = L)).map (·.2)
  refine p.nodup_iff.mpr ?_
  have nab : a ≠ b := fun z => by rw [z] at i0; omega
  have ncd : c ≠ d := fun z => by rw [z] at i2; omega
  have nc : c ∉ more.map (·.2) := fun z => by
    rw [List.mem_map] at z
    obtain ⟨e, he, z⟩ := z
    have := (hm.ok e he).2.2.2.1
    rw [z] at this
    omega
  have nd : d ∉ more.map (·.2) := fun z => by
    rw [List.mem_map] at z
    obtain ⟨e, he, z⟩ := z
    have := (hm.ok e he).2.2.2.1
    rw [z] at this
    omega
  have Ld : L.2 = d := by rcases hL with rfl | rfl <;> rfl
  have em : more.filter (fun e => !decide (e = L)) = more := by
    refine List.filter_eq_self.mpr fun e he => ?_
    have : e ≠ L := fun z => nd (List.mem_map.mpr ⟨e, he, by rw [z, Ld]⟩)
    simp [this]
  rw [List.filter_append, em, List.map_append]
  have e3 : (([(a, c), (a, d), (b, d)] : List (Nat × Nat)).filter fun e => !decide (e = L)).map (·.2) = [c, d] := by
    rcases hL with rfl | rfl
    · simp [ncd, nab]
    · simp [ncd, Ne.symm nab]
  rw [e3]
  refine List.nodup_append.mpr ⟨by simp [ncd], hm.nd, fun x hx y hy z => ?_⟩
  subst z
  simp only [List.mem_cons, List.not_mem_nil, or_false] at hx
  rcases hx with rfl | rfl
  · exact nc hy
  · exact nd hy
end
/-! ### what orders with the wishes cost -/
theorem Keeps.reach {wl : List (Nat × Nat)} {o : List Nat} (h : Keeps wl o) {a b : Nat} (r : Reach wl a b) : o.idxOf a < o.idxOf b := by
  induction r with
  | one q => exact h _ q
  | step _ q ih => exact Nat.lt_trans ih (h _ q)
theorem split_at {o : List Nat} (hn : o.Nodup) {a : Nat} (ha : a ∈ o) : ∃ pre post, o = pre ++ a :: post ∧ ∀ b, b ∈ o → o.idxOf a < o.idxOf b → b ∈ post := by
  obtain ⟨pre, post, rfl⟩ := List.append_of_mem ha
  refine ⟨pre, post, rfl, fun b hb hlt => ?_⟩
  have ia : (pre ++ a :: post).idxOf a = pre.length := idx_get hn (by simp)
  rcases List.mem_append.mp hb with z | z
  · rw [ia, idx_app z] at hlt
    have := List.idxOf_lt_length_iff.mpr z
    omega
  · rcases List.mem_cons.mp z with rfl | z
    · omega
    · exact z
theorem shown_all {p w : Nat → Int} {c sh : Int} {n : Nat} {wl : List (Nat × Nat)} {rk : Nat → Nat} {es : List Ent} {o : List Nat} (hp : ∀ j, 0 ≤ p j) (hf : ∀ e ∈ es, EntFine n wl e) (ho : o.Perm (List.range n)) (hk : Keeps wl o) (h0 : 0 < sh) (hd : ∀ e ∈ es, e.b ∣ sh) :
    shown p w c n sh (fun e => e.t * (sh / e.b)) es ≤ sh * cost p w c o := by
  refine shown_le hp ho fun e he => ?_
  have f := hf e he
  have hn : o.Nodup := ho.nodup_iff.mpr List.nodup_range
  refine ⟨Int.mul_nonneg f.t0 (Int.ediv_nonneg (by omega) (Int.le_of_lt f.b0)), f.s.imp fun h => Nat.ne_of_lt h, ?_⟩
  obtain ⟨pre, post, e1, e2⟩ := split_at hn (ho.mem_iff.mpr (List.mem_range.mpr f.an))
  refine ⟨pre, post, e1, fun b hb => e2 b ?_ (hk.reach (f.sn b hb).2)⟩
  exact ho.mem_iff.mpr (List.mem_range.mpr (f.sn b hb).1)
theorem common {es : List Ent} (h : ∀ e ∈ es, 0 < e.b) : ∃ sh : Int, 0 < sh ∧ ∀ e ∈ es, e.b ∣ sh := by
  induction es with
  | nil => exact ⟨1, by decide, fun e h => absurd h List.not_mem_nil⟩
  | cons x r ih =>
    obtain ⟨s, s0, sd⟩ := ih fun e he => h e (List.mem_cons_of_mem _ he)
    refine ⟨x.b * s, Int.mul_pos (h x (List.mem_cons_self ..)) s0, fun e he => ?_⟩
    rcases List.mem_cons.mp he with rfl | he
    · exact Int.dvd_mul_right _ _
    · exact Int.dvd_trans (sd e he) (Int.dvd_mul_left _ _)
theorem Good.fine {p w : Nat → Int} {n : Nat} {wl wl' : List (Nat × Nat)} {rk : Nat → Nat} {bs : List (List Nat)} {es : List Ent} (g : Good p w (Reach wl') (List.range n) bs es) (hs : ∀ e ∈ wl', e ∈ wl) (hr : Ranked wl rk n) (n8 : n ≤ 8) : ∀ e ∈ es, EntFine n wl e ∧ e.b < 2 ^ 59 := fun e he => by
  have h := g.ent e he
  have hre : ∀ b ∈ e.S, b < n ∧ Reach wl e.a b := fun b hb => by
    have r := (h.re b hb).mono hs
    exact ⟨(hr.reach r).2, r⟩
  obtain ⟨X, hX, pre, chunk, post, e1, e2⟩ := h.at_
  refine ⟨⟨List.mem_range.mp (g.perm.mem_iff.mp (List.mem_flatten.mpr ⟨X, hX, by rw [e1]; simp⟩)), h.s, ?_, hre, h.t0, h.b0, h.g, ?_, ?_⟩, h.bb⟩
  · have := nodup_le e.S (List.range n) (h.s.imp fun h => Nat.ne_of_lt h) fun b hb => List.mem_range.mpr (hre b hb).1
    rw [List.length_range] at this
    omega
  · have := h.tb; omega
  · have := h.bb; omega
theorem Good.cost_le {p w : Nat → Int} {c : Int} {n : Nat} {wl wl' : List (Nat × Nat)} {rk : Nat → Nat} {bs : List (List Nat)} {es : List Ent} {o : List Nat} (g : Good p w (Reach wl') (List.range n) bs es) (hs : ∀ e ∈ wl', e ∈ wl) (hr : Ranked wl rk n) (n8 : n ≤ 8) (hp : ∀ j, 0 < p j)
    (srt : bs.Pairwise fun X Y => rho p w Y ≤ rho p w X) (ho : o.Perm (List.range n)) (hk : Keeps wl o) : cost p w c bs.flatten ≤ cost p w c o := by
  have hf := g.fine hs hr n8
  obtain ⟨sh, s0, sd⟩ := common fun e he => (hf e he).1.b0
  have h1 := g.shown hp (c := c) srt s0 sd
  have h2 := shown_all (p := p) (w := w) (c := c) (rk := rk) (fun j => Int.le_of_lt (hp j)) (fun e he => (hf e he).1) ho hk s0 sd
  rw [h1] at h2
  exact Int.le_of_mul_le_mul_left h2 s0
theorem gcd_mul {sh C : Int} (h : 0 < sh) : ((Int.gcd (sh * C) sh : Nat) : Int) = sh := by
  have e : Int.gcd (sh * C) sh = sh.natAbs := by
    simp
  rw [e]; omega
theorem show_frac {sh C : Int} (h : 0 < sh) : sh * C / ((Int.gcd (sh * C) sh : Nat) : Int) = C ∧ sh / ((Int.gcd (sh * C) sh : Nat) : Int) = 1 := by
  rw [gcd_mul h]
  exact ⟨Int.mul_ediv_cancel_left _ (by omega), Int.ediv_self (by omega)⟩
theorem frac_le_of {S sh L : Int} (h : 0 < sh) (hS : S ≤ sh * L) : S / ((Int.gcd S sh : Nat) : Int) ≤ L * (sh / ((Int.gcd S sh : Nat) : Int)) := by
  have g0 : (0 : Int) < (Int.gcd S sh : Nat) := by have := gcd_pos_of (t := S) h; omega
  have h1 : S / (Int.gcd S sh : Nat) * (Int.gcd S sh : Nat) = S := Int.ediv_mul_cancel (Int.gcd_dvd_left ..)
  have h2 : sh / (Int.gcd S sh : Nat) * (Int.gcd S sh : Nat) = sh := Int.ediv_mul_cancel (Int.gcd_dvd_right ..)
  generalize ((Int.gcd S sh : Nat) : Int) = g at *
  generalize S / g = x at *
  generalize sh / g = y at *
  refine Int.le_of_mul_le_mul_right (a := g) ?_ g0
  rw [h1, Int.mul_assoc, h2, Int.mul_comm L sh]
  exact hS
/-- an entry with half its price -/
def half (e : Ent) : Ent := ⟨e.a, e.S, e.t / (Int.gcd e.t (2 * e.b) : Nat), 2 * e.b / (Int.gcd e.t (2 * e.b) : Nat)⟩
theorem EntFine.half {n : Nat} {wl : List (Nat × Nat)} {e : Ent} (f : EntFine n wl e) (h : e.b < 2 ^ 59) : EntFine n wl (half e) := by
  have b0 := f.b0
  have hb : 0 < 2 * e.b := by omega
  have h1 := frac_le (t := e.t) hb
  have g0 := gcd_pos_of (t := e.t) hb
  have ht : 0 ≤ e.t / (Int.gcd e.t (2 * e.b) : Nat) := Int.ediv_nonneg f.t0 (by omega)
  have := f.tb
  have := f.t0
  refine ⟨f.an, f.s, f.s8, f.sn, ht, frac_pos hb, frac_gcd hb, ?_, ?_⟩
  · show e.t / (Int.gcd e.t (2 * e.b) : Nat) < 2 ^ 60
    omega
  · show 2 * e.b / (Int.gcd e.t (2 * e.b) : Nat) < 2 ^ 60
    omega
theorem cost_bound {p w : Nat → Int} {M : Int} (hM : 0 ≤ M) (hp : ∀ j, 0 ≤ p j ∧ p j ≤ M) (hw : ∀ j, 0 ≤ w j ∧ w j ≤ M) : ∀ (o : List Nat) (e : Int), 0 ≤ e → 0 ≤ cost p w e o ∧ cost p w e o ≤ (o.length : Int) * (M * (e + (o.length : Int) * M))
  | [], e, _ => by simp [cost]
  | j :: r, e, he => by
    have hj := hp j
    have wj := hw j
    have ih := cost_bound hM hp hw r (e + p j) (by omega)
    have e1 : cost p w e (j :: r) = w j * (e + p j) + cost p w (e + p j) r := by simp [cost]
    have q1 : 0 ≤ w j * (e + p j) := Int.mul_nonneg wj.1 (by omega)
    have q2 : w j * (e + p j) ≤ M * (e + M) := Int.mul_le_mul wj.2 (by omega) (by omega) hM
    have hr0 : (0 : Int) ≤ (r.length : Int) := by omega
    have q3 : (r.length : Int) * (M * (e + p j + (r.length : Int) * M)) ≤ (r.length : Int) * (M * (e + M + (r.length : Int) * M)) :=
      Int.mul_le_mul_of_nonneg_left (Int.mul_le_mul_of_nonneg_left (by omega) hM) hr0
    have el : ((j :: r).length : Int) = (r.length : Int) + 1 := by simp
    have q5 : 0 ≤ M * ((r.length : Int) * M) := Int.mul_nonneg hM (Int.mul_nonneg hr0 hM)
    rw [e1, el]
    refine ⟨by omega, ?_⟩
    have e2 : M * (e + M) + (r.length : Int) * (M * (e + M + (r.length : Int) * M)) + M * ((r.length : Int) * M) = ((r.length : Int) + 1) * (M * (e + ((r.length : Int) + 1) * M)) := by grind
    omega
end NW
/-! k67 by hand, 22: the law -/
namespace NW
open PySem PySem.Spec PyProof.Rows L2
theorem rd_same {H H' : Hp} {b : Addr} {u : HO} (k : Same H H') : Rd H b u → Rd H' b u := fun h => h.elim (fun h => .inl (k _ _ h)) fun ⟨o, h⟩ => .inr ⟨o, k _ _ h⟩
theorem ords_of {n : Nat} {wl : List (Nat × Nat)} {H : Hp} : ∀ {us : List V}, (∀ v ∈ us, OrdV n wl H v) → ∃ os : List (List Nat), All2 (fun v o => ∃ b, v = .ref b ∧ Rd H b (.tup (o.map nv))) us os ∧ ∀ o ∈ os, o.Perm (List.range n) ∧ Keeps wl o
  | [], _ => ⟨[], .nil, fun _ h => absurd h List.not_mem_nil⟩
  | v :: r, h => by
    obtain ⟨os, h1, h2⟩ := ords_of fun x hx => h x (List.mem_cons_of_mem _ hx)
    obtain ⟨b, o, e, hb, hp, hk⟩ := h v (List.mem_cons_self ..)
    refine ⟨o :: os, .cons ⟨b, e, hb⟩ h1, fun x hx => ?_⟩
    rcases List.mem_cons.mp hx with rfl | hx
    · exact ⟨hp, hk⟩
    · exact h2 x hx
theorem filt_all2 {r : V → Nat × Nat → Prop} {us : List V} {wl : List (Nat × Nat)} (h : All2 r us wl) (L : Nat × Nat) :
    All2 r ((List.range us.length).filterMap fun i => (wl[i]?).bind fun e => if e = L then none else us[i]?) (wl.filter fun e => !decide (e = L)) := by
  have hl := h.length
  have q : ∀ k, All2 r ((List.range k).filterMap fun i => (wl[i]?).bind fun e => if e = L then none else us[i]?) ((wl.take k).filter fun e => !decide (e = L)) := by
    intro k
    induction k with
    | zero => simp; exact .nil
    | succ k ih =>
      rw [range_snoc_fm]
      cases e : wl[k]? with
      | none =>
        have hk : wl.length ≤ k := by simpa using e
        rw [List.take_of_length_le hk] at ih
        rw [List.take_of_length_le (by omega)]
        simpa using ih
      | some x =>
        obtain ⟨v, hv, hr⟩ := h.get e
        rw [take_snoc e, List.filter_append]
        by_cases hx : x = L
        · simpa [hx] using ih
        · have : All2 r ([v] : List V) [x] := .cons hr .nil
          simpa [hx, hv] using ih.append this
  have := q us.length
  rw [hl, List.take_length] at this
  rw [hl]
  exact this
/-- a pair's two numbers -/
def pkey (H : Hp) : V → Int × Int
  | .ref b => match H b with
    | some (.tup [.int i, .int j]) => (i, j)
    | _ => (0, 0)
  | _ => (0, 0)
theorem pkey_of {H : Hp} {us : List V} {wl : List (Nat × Nat)} (h : All2 (WshV H) us wl) : ∀ x ∈ us, ∃ t, x = V.ref t ∧ H t = some (.tup [.int (pkey H x).1, .int (pkey H x).2]) := by
  intro x hx
  obtain ⟨i, hi⟩ := List.getElem?_of_mem hx
  obtain ⟨e, _, b, rfl, hb⟩ := h.get' hi
  refine ⟨b, rfl, ?_⟩
  have e1 : pkey H (.ref b) = ((e.1 : Int), (e.2 : Int)) := by
    simp [pkey, hb, nv]
  rw [e1]
  exact hb
theorem costs_fm {p w : Nat → Int} {c : Int} {os : List (List Nat)} : (List.range os.length).filterMap (fun i => (os[i]?).bind fun o => some (V.int (cost p w c o))) = (os.map (cost p w c)).map V.int := by
  rw [fm_bind, ← List.filterMap_eq_map, List.filterMap_eq_map, List.map_map]
  induction os with
  | nil => rfl
  | cons x r ih => simp [ih]
section
variable {P : Program} {w : World} {K : PySem.W.Frag} {mg : Str → Option Value} {base : Heap}
abbrev s_law : Stmt := top 54
theorem sc_law : FnScope ["_law_script", "_law_tape_here", "_law_works_here", "_law_row_here", "_law_more", "_law_i", "_law_a", "_law_b", "_law_c", "_law_d", "_law_wishes", "_law_orders_here", "_law_least", "_law_halves", "_law_left_out", "_law_fewer", "_law_order", "_law_prices", "_law_cost_here", "_law_one", "_law_some", "_law_price", "_law_top", "_law_bottom", "_law_wish"] ["_law_script"] (defScope s_law) := ⟨rfl, rfl, rfl, by decide +kernel, rfl, by decide +kernel, by decide +kernel⟩
def sp_law (K : PySem.W.Frag) : Sp := fun vs H Q _ => ∃ (a : Addr) (ns : List Int), vs = [.ref a] ∧ SqL K H a (ns.map V.int) ∧ ∀ H', Q (.bl true) H'
set_option maxHeartbeats 4000000 in
theorem r_law {f : Addr} {fd : FuncData} (F : Fun K "law" "law" s_law f fd) (T : Bi mg) (R_law_tape : Rdy P w K mg base "_law_tape" 1 ["_law_script"] (sp_tape K)) (R_law_pick : Rdy P w K mg base "_law_pick" 1 ["_law_tape_here", "_law_many"] sp_pick)
    (R_law_works : Rdy P w K mg base "_law_works" 2 ["_law_tape_here", "_law_many"] sp_works) (R_law_row : Rdy P w K mg base "_law_row" 2 ["_law_tape_here", "_law_many"] sp_rowT) (R_law_word : Rdy P w K mg base "_law_word" 5 ["_law_works_here", "_law_wishes", "_law_way"] sp_word)
    (R_law_orders : Rdy P w K mg base "_law_orders" 3 ["_law_tape_here", "_law_many", "_law_wishes"] sp_orders) (R_law_cost : Rdy P w K mg base "_law_cost" 1 ["_law_works_here", "_law_order"] sp_cost) (R_forest_order : Rdy P w K mg base "forest_order" 25 ["works", "wishes"] sp_forest_order)
    (R_priced : Rdy P w K mg base "priced" 5 ["works", "wishes", "thing"] sp_priced) (R_law_low : Rdy P w K mg base "_law_low" 1 ["_law_top", "_law_bottom"] sp_fraction) : FnOk P w K mg base CX0 26 f fd ["_law_script"] (sp_law K) := by
  refine F.ok sc_law (fun vs H Q E h => ?_) (fun cdv A outer s H vs Q E hr h => ?_)
  · obtain ⟨a, ns, rfl, _⟩ := h
    rfl
  obtain ⟨sa, ns, rfl, hs, q⟩ := h
  refine ⟨_, (pss_cons (ps_set (i := 1) sc_law.nd rfl (Or.inl rfl) (pe_cl R_law_tape (hr.mono (by decide)) (pa_cons (pv 0) pa_nil)))
    (pss_cons (ps_set (i := 2) sc_law.nd rfl (Or.inr rfl) (pe_cl R_law_works (hr.mono (by decide)) (pa_cons (pv 1) (pa_cons (pe_op op_add pe_int (pe_cl R_law_pick (hr.mono (by decide)) (pa_cons (pv 1) (pa_cons pe_int pa_nil)))) pa_nil))))
    (pss_cons (ps_set (i := 3) sc_law.nd rfl (Or.inl rfl) (pe_cl R_law_row (hr.mono (by decide)) (pa_cons (pv 1) (pa_cons (pe_callB call_len_seq rfl T.b_len PySem.boot_len (pa_cons (pv 2) pa_nil)) pa_nil))))
    (pss_cons (ps_set (i := 4) sc_law.nd rfl (Or.inl rfl) (pe_lst pa_nil))
    (pss_cons (ps_for PassesOwn.never rfl (pi_range2 rfl T.b_range (pa_cons pe_int (pa_cons (pe_callB call_len_seq rfl T.b_len PySem.boot_len (pa_cons (pv 2) pa_nil)) pa_nil))) (pg_name (i := 5) sc_law.nd rfl (Or.inl rfl))
      (pss_one (ps_if (pt_cmpR op_gt (pe_cl R_law_pick (hr.mono (by decide)) (pa_cons (pv 1) (pa_cons pe_int pa_nil))) pe_int (nomark _)) (pss_one (ps_expr (pe_bm PySem.F.plainAttrs_list PySem.F.slot_list_append PySem.F.type_list_append mt_append (pv 4) (pa_cons (pe_tup (pa_cons (pe_ix ix_tup (pv 3) (pe_cl R_law_pick (hr.mono (by decide)) (pa_cons (pv 1) (pa_cons (pv 5) pa_nil))) (fun _ _ => rfl)) (pa_cons (pe_ix ix_tup (pv 3) (pv 5) (fun _ _ => rfl)) pa_nil))) pa_nil)))) pss_nil)))
    (pss_cons (ps_asg (pe_slice sl_tupA (pv 3) po_none (po_some pe_int)) (pg_tup rfl (pgs_cons (pg_name (i := 6) sc_law.nd rfl (Or.inl rfl)) (pgs_cons (pg_name (i := 7) sc_law.nd rfl (Or.inl rfl)) (pgs_cons (pg_name (i := 8) sc_law.nd rfl (Or.inl rfl)) (pgs_cons (pg_name (i := 9) sc_law.nd rfl (Or.inl rfl)) pgs_nil))))))
    (pss_cons (ps_set (i := 10) sc_law.nd rfl (Or.inl rfl) (pe_callTy call_tuple_of rfl T.b_tuple (by decide +kernel) (pa_cons (pe_callB cr_sortedPO rfl T.b_sorted (by decide +kernel) (pa_cons (pe_op op_cat (pe_lst (pa_cons (pe_tup (pa_cons (pv 6) (pa_cons (pv 8) pa_nil))) (pa_cons (pe_tup (pa_cons (pv 6) (pa_cons (pv 9) pa_nil))) (pa_cons (pe_tup (pa_cons (pv 7) (pa_cons (pv 9) pa_nil))) pa_nil)))) (pv 4)) pa_nil)) pa_nil)))
    (pss_cons (ps_if (PW.pt (pw_or (pt_cmpR op_ne (pe_cl R_law_word (hr.mono (by decide)) (pa_cons (pv 2) (pa_cons (pv 10) (pa_cons pe_int pa_nil)))) pe_str (nomark _)) (pw_or1 (pt_cmpR op_ne (pe_cl R_law_word (hr.mono (by decide)) (pa_cons (pv 2) (pa_cons (pv 10) (pa_cons pe_int pa_nil)))) pe_str (nomark _))))) (pss_one (ps_ret pe_bl)) pss_nil)
    (pss_cons (ps_set (i := 11) sc_law.nd rfl (Or.inl rfl) (pe_cl R_law_orders (hr.mono (by decide)) (pa_cons (pv 1) (pa_cons (pe_callB call_len_seq rfl T.b_len PySem.boot_len (pa_cons (pv 2) pa_nil)) (pa_cons (pv 10) pa_nil)))))
    (pss_cons (ps_set (i := 12) sc_law.nd rfl (Or.inl rfl) (pe_callB (cr_min rfl) rfl T.b_min (by decide +kernel) (pa_cons (pe_lc (own := [("_law_order", 16)]) rfl sc_law.nd (pi_list (pv 11)) (blkOk_by (N := ["_law_script", "_law_tape_here", "_law_works_here", "_law_row_here", "_law_more", "_law_i", "_law_a", "_law_b", "_law_c", "_law_d", "_law_wishes", "_law_orders_here", "_law_least", "_law_halves", "_law_left_out", "_law_fewer", "_law_order", "_law_prices", "_law_cost_here", "_law_one", "_law_some", "_law_price", "_law_top", "_law_bottom", "_law_wish"]) (sc := defScope s_law) (by decide +kernel)) (fun _ _ _ _ _ => (pg_name (i := 16) sc_law.nd rfl (Or.inl rfl) (Or.inr rfl))) (fun _ _ _ _ _ => pts_nil) (fun _ _ _ _ _ => (pe_cl R_law_cost (hr.mono (by decide)) (pa_cons (pv 2) (pa_cons (pv 16) pa_nil))))) pa_nil)))
    (pss_cons (ps_set (i := 13) sc_law.nd rfl (Or.inl rfl) (pe_tup pa_nil))
    (pss_cons (ps_for PassesOwn.never rfl (pi_list (pe_lst (pa_cons (pe_tup (pa_cons (pv 7) (pa_cons (pv 9) pa_nil))) (pa_cons (pe_tup (pa_cons (pv 6) (pa_cons (pv 9) pa_nil))) pa_nil)))) (pg_name (i := 14) sc_law.nd rfl (Or.inr rfl))
      (pss_cons (ps_set (i := 15) sc_law.nd rfl (Or.inl rfl) (pe_callTy call_tuple_of rfl T.b_tuple (by decide +kernel) (pa_cons (pe_lc (own := [("_law_wish", 24)]) rfl sc_law.nd (pi_tup (pv 10)) (blkOk_by (N := ["_law_script", "_law_tape_here", "_law_works_here", "_law_row_here", "_law_more", "_law_i", "_law_a", "_law_b", "_law_c", "_law_d", "_law_wishes", "_law_orders_here", "_law_least", "_law_halves", "_law_left_out", "_law_fewer", "_law_order", "_law_prices", "_law_cost_here", "_law_one", "_law_some", "_law_price", "_law_top", "_law_bottom", "_law_wish"]) (sc := defScope s_law) (by decide +kernel)) (fun _ _ _ _ _ => (pg_name (i := 24) sc_law.nd rfl (Or.inl rfl) (Or.inr rfl))) (fun _ _ _ _ _ => pts_one (pt_cmpR (op_neDK K hr.units) (pv 24) (pv 14) (nomark _))) (fun _ _ _ _ _ => (pv 24))) pa_nil)))
      (pss_cons (ps_asg (pe_cl R_forest_order (hr.mono (by decide)) (pa_cons (pv 2) (pa_cons (pv 15) pa_nil))) (pg_tup rfl (pgs_cons (pg_name (i := 16) sc_law.nd rfl (Or.inl rfl)) (pgs_cons (pg_name (i := 17) sc_law.nd rfl (Or.inl rfl)) pgs_nil))))
      (pss_cons (ps_set (i := 18) sc_law.nd rfl (Or.inl rfl) (pe_cl R_law_cost (hr.mono (by decide)) (pa_cons (pv 2) (pa_cons (pv 16) pa_nil))))
      (pss_cons (ps_if (PW.pt (pw_or (pt_cmpR op_gt (pv 18) (pv 12) (nomark _)) (pw_or1 (pt_cmpR (op_neD hr.units) (pe_cl R_priced (hr.mono (by decide)) (pa_cons (pv 2) (pa_cons (pv 10) (pa_cons (pv 17) pa_nil)))) (pe_tup (pa_cons (pv 18) (pa_cons pe_int pa_nil))) (nomark _))))) (pss_one (ps_ret pe_bl)) pss_nil)
      (pss_one (ps_for PassesOwn.never rfl (pi_tup (pv 17)) (pg_tup rfl (pgs_cons (pg_name (i := 19) sc_law.nd rfl (Or.inl rfl)) (pgs_cons (pg_name (i := 20) sc_law.nd rfl (Or.inl rfl)) (pgs_cons (pg_name (i := 21) sc_law.nd rfl (Or.inl rfl)) pgs_nil))))
        (pss_one (ps_set (i := 13) sc_law.nd rfl (Or.inl rfl) (pe_op op_catA (pv 13) (pe_tup (pa_cons (pe_tup (pa_cons (pv 19) (pa_cons (pv 20) (pa_cons (pe_cl R_law_low (hr.mono (by decide)) (pa_cons (pe_ix ix_tup (pv 21) pe_int (fun _ _ => rfl)) (pa_cons (pe_op op_mul pe_int (pe_ix ix_tup (pv 21) pe_int (fun _ _ => rfl))) pa_nil))) pa_nil)))) pa_nil))))))))))))
    (pss_cons (ps_asg (pe_cl R_priced (hr.mono (by decide)) (pa_cons (pv 2) (pa_cons (pv 10) (pa_cons (pv 13) pa_nil)))) (pg_tup rfl (pgs_cons (pg_name (i := 22) sc_law.nd rfl (Or.inl rfl)) (pgs_cons (pg_name (i := 23) sc_law.nd rfl (Or.inl rfl)) pgs_nil))))
    (pss_one (ps_ret (pe_cmpR op_le (pv 22) (pe_op op_mul (pv 12) (pv 23)) (nomark _))))))))))))))))), ?_⟩
  -- the tape, the works, the row
  refine ⟨_, rfl, sa, ns, rfl, hs, fun t tl H1 k1 ht0 hT => ?_⟩
  refine ⟨_, rfl, _, rfl, t, tl, 5, rfl, hT, by decide, by decide, fun r H2 ra rb b2 hT2 => ?_⟩
  refine ⟨_, _, rfl, rfl, ?_⟩
  obtain ⟨n, hn⟩ : ∃ n : Nat, (4 : Int) + r = (n : Int) := ⟨(4 + r).toNat, by omega⟩
  have n4 : 4 ≤ n := by omega
  have n8 : n ≤ 8 := by omega
  refine ⟨t, tl, n, (by show [V.ref t, V.int (4 + r)] = [V.ref t, V.int (n : Int)]; rw [hn]), hT2, by omega, n8, fun aw H3 c p wt b3 hT3 hW => ?_⟩
  obtain ⟨vs, hv1, hv2, _⟩ := hW.all
  refine ⟨_, rfl, _, rfl, aw, vs, rfl, .inr (SqT.of hv1), t, tl, n, by rw [hv2] <;> rfl, hT3, n8, fun rr H4 row b4 hT4 er pm => ?_⟩
  have kt4 := hT3.kt b4
  have hW4 := hW.kt kt4
  have rowL : row.length = n := by rw [pm.length_eq, List.length_range]
  have rowN : row.Nodup := pm.nodup_iff.mpr List.nodup_range
  refine ⟨(by show 0 ≤ sizeLine; decide), fun m0 hm0 => ?_⟩
  have m0t := hT4.ne hm0
  have m0l := hT4.ne2 hm0
  have s5 : Same H4 (upd H4 m0 (.lst [])) := same_new hm0
  refine ⟨_, rfl, aw, vs, rfl, .inr (SqT.of (s5 _ _ (kt4 _ _ hv1))), 4, (n : Int), by rw [hv2], ⟨by omega, by omega, by omega, by omega⟩, ?_⟩
  have en : ((n : Int) - 4).toNat = n - 4 := by omega
  rw [en]
  refine for_range (lo := 4) (n := n - 4) (fun i σ H' => But t H4 H' ∧ TapeV H' t tl ∧ (∃ us more, H' m0 = some (.lst us) ∧ All2 (WshV H') us more ∧ MoreOk row (4 + i) more) ∧ ∃ x, σ = [some (.ref sa), some (.ref t), some (.ref aw), some (.ref rr), some (.ref m0), x, none, none, none, none, none, none, none, none, none, none, none, none, none, none, none, none, none, none, none])
    ⟨But.same s5, hT4.same s5, ⟨[], [], upd_same, .nil, ⟨fun e he => absurd he List.not_mem_nil, List.nodup_nil, Nat.le_refl _⟩⟩, none, rfl⟩ (fun i σ H5 hi h => ?_) (fun σ H5 h => ?_)
  · obtain ⟨B5, hT5, ⟨us, more, e5, a5, ok5⟩, x0, rfl⟩ := h
    have x4 : V.int (4 + (i : Nat)) = nv (4 + i) := by unfold nv; congr 1
    rw [x4]
    refine ⟨_, rfl, t, tl, 4, rfl, hT5, by decide, by decide, fun r6 H6 ra6 rb6 b6 hT6 => ?_⟩
    have kt6 := hT5.kt b6
    have B6 := B5.trans b6
    have e6 := b6 _ _ m0t e5
    have a6 := a5.imp fun v e => WshV.kt (v := v) (e := e) kt6
    refine ⟨_, _, rfl, rfl, _, rfl, ?_⟩
    refine ite2 (fun c6 => ?_) (fun c6 => ?_)
    · refine ⟨_, rfl, .inl ⟨rfl, _, SqL.of e6⟩, ?_⟩
      refine ⟨_, rfl, _, rfl, _, rfl, t, tl, ((4 + i : Nat) : Int), rfl, hT6, by omega, by omega, fun r7 H7 ra7 rb7 b7 hT7 => ?_⟩
      have kt7 := hT6.kt b7
      have kt47 := (hT4.same (Same.refl _)).kt (B6.trans b7)
      have er7 := kt47 _ _ er
      obtain ⟨k, rfl⟩ : ∃ k : Nat, r7 = (k : Int) := ⟨r7.toNat, by omega⟩
      obtain ⟨u, hu⟩ : ∃ u, row[k]? = some u := ⟨_, List.getElem?_eq_getElem (by omega)⟩
      obtain ⟨v, hv⟩ : ∃ v, row[4 + i]? = some v := ⟨_, List.getElem?_eq_getElem (by omega)⟩
      refine ⟨rr, _, (k : Int), nv u, rfl, rfl, SqT.of er7, atI_nat (by rw [List.getElem?_map, hu] <;> rfl), ?_⟩
      refine ⟨_, rfl, _, rfl, rr, _, ((4 + i : Nat) : Int), nv v, rfl, rfl, SqT.of er7, atI_nat (by rw [List.getElem?_map, hv] <;> rfl), ?_⟩
      refine ⟨(by show 2 ≤ sizeLine; decide), fun p8 hp8 => ?_⟩
      have s8 : Same H7 (upd H7 p8 (.tup [nv u, nv v])) := same_new hp8
      have e8 := s8 _ _ (b7 _ _ m0t e6)
      have ul := a6.length
      have ml := ok5.len
      refine ⟨m0, _, _, rfl, rfl, e8, lst_len (by omega), ?_⟩
      have B8 : But t H4 (upd H7 p8 (.tup [nv u, nv v])) := (B6.trans b7).trans (But.same s8)
      refine ⟨fun b o nb hb => ?_, (hT7.same s8).upd m0t m0l, ⟨us ++ [.ref p8], more ++ [(u, v)], upd_same, ?_, ?_⟩, _, rfl⟩
      · rw [upd_ne (ne_of_none hb hm0)]
        exact B8 _ _ nb hb
      · exact (a6.imp fun v e h => (h.kt (kt7.trans (KT.same s8))).kt (KT.lst e8)).snoc (WshV.kt (KT.lst e8) ⟨p8, rfl, upd_same⟩)
      · exact ok5.snoc rowN (by omega) (by omega) hu hv
    · exact ⟨B6, hT6, ⟨us, more, e6, a6, ok5.skip⟩, _, rfl⟩
  obtain ⟨B5, hT5, ⟨us, more, e5, a5, ok5⟩, x0, rfl⟩ := h
  have e44 : 4 + (n - 4) = n := by omega
  rw [e44] at ok5
  have kt5 := hT4.kt B5
  have hW5 := hW4.kt kt5
  have er5 := kt5 _ _ er
  -- a, b, c, d
  obtain ⟨a, b, c', d, rest, erow⟩ : ∃ a b c' d rest, row = a :: b :: c' :: d :: rest := by
    match row, rowL with
    | a :: b :: c' :: d :: rest, _ => exact ⟨a, b, c', d, rest, rfl⟩
    | [], h => simp at h; omega
    | [_], h => simp at h; omega
    | [_, _], h => simp at h; omega
    | [_, _, _], h => simp at h; omega
  refine ⟨_, rfl, (4 : Int), rfl, ?_⟩
  refine sl_any (SqT.of er5) fun b6 H6 s6 hb6 => ?_
  have e4 : cutV (row.map nv) none (some 4) = [nv a, nv b, nv c', nv d] := by
    refine (cutL _ 4 (by rw [List.length_map]; omega)).trans ?_
    rw [erow]
    rfl
  rw [e4] at hb6
  refine ⟨b6, _, rfl, hb6, rfl, _, _, rfl, _, _, rfl, _, _, rfl, _, _, rfl, rfl, ?_⟩
  -- the wishes
  refine ⟨_, rfl, _, rfl, (by show 2 ≤ sizeLine; decide), fun q1 hq1 => ⟨_, rfl, _, rfl, (by show 2 ≤ sizeLine; decide), fun q2 hq2 => ⟨_, rfl, _, rfl, (by show 2 ≤ sizeLine; decide), fun q3 hq3 => ⟨(by show 3 ≤ sizeLine; decide), fun l1 hl1 => ?_⟩⟩⟩⟩
  generalize hH7 : upd (upd (upd (upd H6 q1 (.tup [nv a, nv c'])) q2 (.tup [nv a, nv d])) q3 (.tup [nv b, nv d])) l1 (.lst [.ref q1, .ref q2, .ref q3]) = H7
  have s1 : Same H6 (upd H6 q1 (.tup [nv a, nv c'])) := same_new hq1
  have s2 : Same (upd H6 q1 (.tup [nv a, nv c'])) (upd (upd H6 q1 (.tup [nv a, nv c'])) q2 (.tup [nv a, nv d])) := same_new hq2
  have s3 : Same (upd (upd H6 q1 (.tup [nv a, nv c'])) q2 (.tup [nv a, nv d])) (upd (upd (upd H6 q1 (.tup [nv a, nv c'])) q2 (.tup [nv a, nv d])) q3 (.tup [nv b, nv d])) := same_new hq3
  have s4 : Same (upd (upd (upd H6 q1 (.tup [nv a, nv c'])) q2 (.tup [nv a, nv d])) q3 (.tup [nv b, nv d])) H7 := by rw [← hH7]; exact same_new hl1
  have s67 : Same H6 H7 := s1.trans (s2.trans (s3.trans s4))
  have f1 : H7 q1 = some (.tup [nv a, nv c']) := s4 _ _ (s3 _ _ (s2 _ _ upd_same))
  have f2 : H7 q2 = some (.tup [nv a, nv d]) := s4 _ _ (s3 _ _ upd_same)
  have f3 : H7 q3 = some (.tup [nv b, nv d]) := s4 _ _ upd_same
  have fl : H7 l1 = some (.lst [.ref q1, .ref q2, .ref q3]) := by rw [← hH7]; exact upd_same
  have em7 := s67 _ _ (s6 _ _ e5)
  have ul5 := a5.length
  have ml5 := ok5.len
  refine ⟨_, rfl, l1, m0, _, _, rfl, rfl, fl, em7, Nat.le_of_lt (lst_len (by simp only [List.length_cons, List.length_nil]; omega)), fun l2 hl2 => ?_⟩
  have s8 : Same H7 (upd H7 l2 (.lst ([.ref q1, .ref q2, .ref q3] ++ us))) := same_new hl2
  generalize hH8 : upd H7 l2 (.lst ([.ref q1, .ref q2, .ref q3] ++ us)) = H8 at s8
  have fl2 : H8 l2 = some (.lst ([.ref q1, .ref q2, .ref q3] ++ us)) := by rw [← hH8]; exact upd_same
  have s58 : Same H5 H8 := s6.trans (s67.trans s8)
  have aw8 : All2 (WshV H8) ([.ref q1, .ref q2, .ref q3] ++ us) ([(a, c'), (a, d), (b, d)] ++ more) :=
    (All2.cons ⟨q1, rfl, s8 _ _ f1⟩ (.cons ⟨q2, rfl, s8 _ _ f2⟩ (.cons ⟨q3, rfl, s8 _ _ f3⟩ .nil))).append (a5.imp fun _ _ => WshV.kt (KT.same s58))
  refine ⟨l2, _, pkey H8, rfl, SqL.of fl2, pkey_of aw8, fun ys p9 _ stb hp9 => ?_⟩
  obtain ⟨wl, wp, aw9⟩ := aw8.perm stb.perm
  have s9 : Same H8 (upd H8 p9 (.lst ys)) := same_new hp9
  refine ⟨p9, ys, rfl, .inl ⟨SqL.of upd_same, fun wa hwa => ?_⟩⟩
  generalize hHA : upd (upd H8 p9 (.lst ys)) wa (.tup ys) = HA
  have sA : Same H8 HA := by rw [← hHA]; exact s9.trans (same_new hwa)
  have s5A : Same H5 HA := s58.trans sA
  have hwl : Wsh HA wa wl := ⟨ys, by rw [← hHA]; exact upd_same, aw9.imp fun _ _ => WshV.kt (KT.same sA)⟩
  have lw : LawW row n a b c' d wl := ⟨pm, n4, n8, ⟨rest, erow⟩, more, ok5, wp⟩
  have hWA := hW5.kt (KT.same s5A)
  have w8 := lw.len
  -- refused
  refine ⟨_, rfl, _, rfl, aw, wa, c, n, p, wt, wl, 0, rfl, hWA, hwl, w8, lw.many, fun HB kB => ?_⟩
  refine ⟨rfl, _, rfl, iteF ?_⟩
  refine ⟨_, rfl, _, rfl, aw, wa, c, n, p, wt, wl, 1, rfl, hWA.kt (KT.same kB), hwl.kt (KT.same kB), w8, lw.many, fun HC kC => ?_⟩
  refine ⟨rfl, _, rfl, iteF ?_⟩
  have s5C : Same H5 HC := s5A.trans (kB.trans kC)
  have hWC := hW5.kt (KT.same s5C)
  have hwC := hwl.kt (KT.same (kB.trans kC))
  have hvC := s5C _ _ (kt5 _ _ (kt4 _ _ hv1))
  -- the orders, the least
  refine ⟨_, rfl, _, rfl, aw, vs, rfl, .inr (SqT.of hvC), _, rfl, t, tl, wa, n, wl, _, (by rw [hv2] <;> rfl), hT5.same s5C, by omega, n8, hwC, w8, lw.ranked, ⟨row, pm, lw.keeps⟩, fun ro HD us2 bD hTD eD ne2 len2 ords => ?_⟩
  have ktD := (hT5.same s5C).kt bD
  have hWD := hWC.kt ktD
  have hwD := hwC.kt ktD
  obtain ⟨os, aos, hos⟩ := ords_of ords
  have ol := aos.length
  refine ⟨_, rfl, ro, rfl, ⟨_, SqL.of eD⟩, fun D1 hD1 => ?_⟩
  refine lc_fm walk_list (fun i => (os[i]?).bind fun o => some (V.int (cost p wt c o))) hD1 (by omega) (fun H' k => SqL.of (k _ _ eD)) yAt_same (fun i x H0 H' R N hi k y r1 _ => ?_) (fun HE kE hlE => ?_)
  · obtain ⟨o, ho, ob, rfl, hob⟩ := aos.get' y.2
    refine ⟨rfl, yes (iteT ?_)⟩
    refine ⟨_, rfl, _, rfl, aw, ob, c, n, p, wt, o, rfl, hWD.kt (KT.same k), rd_same k hob, fun j hj => List.mem_range.mp ((hos o (List.mem_of_getElem? ho)).1.mem_iff.mp hj), ?_⟩
    exact r1 _ _ (by rw [ho] <;> rfl) (Same.refl _)
  rw [ol, costs_fm] at hlE
  have os0 : 0 < os.length := by
    rw [← ol]
    exact List.length_pos_iff.mpr ne2
  refine ⟨D1, _, rfl, SqL.of hlE, by rw [List.length_map]; exact os0, fun m hm hle => ?_⟩
  obtain ⟨o0, ho0, em⟩ := List.mem_map.mp hm
  obtain ⟨pm0, kp0⟩ := hos o0 ho0
  have hWE := hWD.kt (KT.same kE)
  have hwE := hwD.kt (KT.same kE)
  refine ⟨(by show 0 ≤ sizeLine; decide), fun h0 hh0 => ?_⟩
  -- the halves
  generalize hHF : upd HE h0 (.tup []) = HF
  have sF : Same HE HF := by rw [← hHF]; exact same_new hh0
  have fh0 : HF h0 = some (.tup []) := by rw [← hHF]; exact upd_same
  have hWF := hWE.kt (KT.same sF)
  have hwF := hwE.kt (KT.same sF)
  have p0 : ∀ j, 0 < p j := fun j => by have := hWF.pp j; omega
  refine ⟨_, rfl, _, rfl, (by show 2 ≤ sizeLine; decide), fun q4 hq4 => ⟨_, rfl, _, rfl, (by show 2 ≤ sizeLine; decide), fun q5 hq5 => ⟨(by show 2 ≤ sizeLine; decide), fun l6 hl6 => ?_⟩⟩⟩
  generalize hHG : upd (upd (upd HF q4 (.tup [nv b, nv d])) q5 (.tup [nv a, nv d])) l6 (.lst [.ref q4, .ref q5]) = HG
  have g1 : Same HF (upd HF q4 (.tup [nv b, nv d])) := same_new hq4
  have g2 : Same (upd HF q4 (.tup [nv b, nv d])) (upd (upd HF q4 (.tup [nv b, nv d])) q5 (.tup [nv a, nv d])) := same_new hq5
  have g3 : Same (upd (upd HF q4 (.tup [nv b, nv d])) q5 (.tup [nv a, nv d])) HG := by rw [← hHG]; exact same_new hl6
  have sG : Same HF HG := g1.trans (g2.trans g3)
  have fq4 : HG q4 = some (.tup [nv b, nv d]) := g3 _ _ (g2 _ _ upd_same)
  have fq5 : HG q5 = some (.tup [nv a, nv d]) := g3 _ _ upd_same
  have fl6 : HG l6 = some (.lst [.ref q4, .ref q5]) := by rw [← hHG]; exact upd_same
  have hWG := hWF.kt (KT.same sG)
  have hwG := hwF.kt (KT.same sG)
  refine ⟨l6, rfl, ⟨_, SqL.of fl6⟩, ?_⟩
  have lefts : ∀ (i : Nat) (x : V), ([V.ref q4, .ref q5])[i]? = some x → i < 2 ∧ ∃ (L : Nat × Nat), (L = (b, d) ∨ L = (a, d)) ∧ WshV HG x L := fun i x hx => by
    match i, hx with
    | 0, hx => cases hx; exact ⟨by decide, (b, d), .inl rfl, q4, rfl, fq4⟩
    | 1, hx => cases hx; exact ⟨by decide, (a, d), .inr rfl, q5, rfl, fq5⟩
    | i + 2, hx => cases hx
  refine for_list (fun i σ H' => Same HG H' ∧ (∃ (hv : Addr) (us3 : List V) (es3 : List Ent), H' hv = some (.tup us3) ∧ All2 (EntV H') us3 es3 ∧ (∀ e ∈ es3, EntFine n wl e) ∧ es3.length ≤ 8 * i ∧ ∃ x14 x15 x16 x17 x18 x19 x20 x21, σ = [some (.ref sa), some (.ref t), some (.ref aw), some (.ref rr), some (.ref m0), x0, some (nv a), some (nv b), some (nv c'), some (nv d), some (.ref wa), some (.ref ro), some (.int m), some (.ref hv), x14, x15, x16, x17, x18, x19, x20, x21, none, none, none]))
    ⟨Same.refl _, h0, [], [], sG _ _ fh0, .nil, fun e he => absurd he List.not_mem_nil, Nat.zero_le _, none, none, none, none, none, none, none, none, rfl⟩ (fun i σ H' _ h => SqL.of (h.1 _ _ fl6)) (fun i x σ HH hx h => ?_) (fun σ HH h => ?_)
  · obtain ⟨kH, hv, us3, es3, eh, ah, fineh, lenh, x14, x15, x16, x17, x18, x19, x20, x21, rfl⟩ := h
    obtain ⟨i2, L, hL, hxL⟩ := lefts i x hx
    have hWH := hWG.kt (KT.same kH)
    have hwH := hwG.kt (KT.same kH)
    obtain ⟨xb, rfl, hxb⟩ := hxL.kt (KT.same kH)
    obtain ⟨wus, hwu, awu⟩ := id hwH
    have wul := awu.length
    refine ⟨_, rfl, wa, rfl, ⟨_, SqT.of hwu⟩, fun D2 hD2 => ?_⟩
    refine lc_fm walk_tup (fun k => (wl[k]?).bind fun e => if e = L then none else wus[k]?) hD2 (by omega) (fun H' k => SqT.of (k _ _ hwu)) yAt_same (fun k y H0 H' R N hk kk yy r1 r2 => ?_) (fun HI kI hlI => ?_)
    · obtain ⟨e, he, eb, rfl, heb⟩ := awu.get' yy.2
      refine ⟨rfl, ?_⟩
      refine ⟨_, rfl, _, rfl, _, _, .tup (SqT.of (kk _ _ heb)) (.cons (.int _) (.cons (.int _) .nil)), .tup (SqT.of (kk _ _ hxb)) (.cons (.int _) (.cons (.int _) .nil)), rfl, rfl, _, rfl, ?_⟩
      have ev : PyData.eqv (.tuple [.int (e.1 : Int), .int (e.2 : Int)]) (.tuple [.int (L.1 : Int), .int (L.2 : Int)]) = decide (e = L) := by
        show (((e.1 : Int) == (L.1 : Int)) && (((e.2 : Int) == (L.2 : Int)) && true)) = _
        by_cases hz : e = L
        · subst hz
          simp
        · rw [decide_eq_false hz]
          have : ¬ (e.1 = L.1 ∧ e.2 = L.2) := fun z => hz (Prod.ext z.1 z.2)
          by_cases h1 : e.1 = L.1
          · have h2 : ¬ e.2 = L.2 := fun z => this ⟨h1, z⟩
            have h2' : ((e.2 : Int) == (L.2 : Int)) = false := by simpa using fun z : (e.2 : Int) = L.2 => h2 (by omega)
            simp [h2']
          · have h1' : ((e.1 : Int) == (L.1 : Int)) = false := by simpa using fun z : (e.1 : Int) = L.1 => h1 (by omega)
            simp [h1']
      rw [ev]
      by_cases hz : e = L
      · rw [decide_eq_true hz]
        exact iteF (r2 (by rw [he]; exact if_pos hz) _ (Same.refl _))
      · rw [decide_eq_false hz]
        exact iteT ⟨_, rfl, r1 _ _ (by rw [he]; show (if e = L then none else wus[k]?) = _; rw [if_neg hz]; exact yy.2) (Same.refl _)⟩
    have afl := filt_all2 awu L
    generalize hfs : ((List.range wus.length).filterMap fun k => (wl[k]?).bind fun e => if e = L then none else wus[k]?) = fs at hlI afl
    refine ⟨D2, fs, rfl, .inl ⟨SqL.of hlI, fun wf hwf => ?_⟩⟩
    generalize hHJ : upd HI wf (.tup fs) = HJ
    have sJ : Same HI HJ := by rw [← hHJ]; exact same_new hwf
    have sHJ : Same HH HJ := kI.trans sJ
    have hwFJ : Wsh HJ wf (wl.filter fun e => !decide (e = L)) := ⟨fs, by rw [← hHJ]; exact upd_same, afl.imp fun _ _ => WshV.kt (KT.same sHJ)⟩
    have hsub : ∀ e ∈ (wl.filter fun e => !decide (e = L)), e ∈ wl := fun e he => (List.mem_filter.mp he).1
    have flen : (wl.filter fun e => !decide (e = L)).length ≤ 8 := Nat.le_trans (List.length_filter_le _ _) w8
    have hWJ := hWH.kt (KT.same sHJ)
    -- the forest's order
    refine ⟨_, rfl, _, rfl, aw, wf, c, n, p, wt, _, fun j => row.idxOf j, rfl, hWJ, hwFJ, flen, lw.ranked.sub hsub, lw.few hL, fun r0 HK oa ta bs es kK fv g srt => ?_⟩
    obtain ⟨fr0, foa, us4, fta, aes⟩ := fv
    refine ⟨_, _, rfl, SqT.of fr0, rfl, _, _, rfl, _, _, rfl, rfl, ?_⟩
    have hWK := hWJ.kt (KT.same kK)
    have fine := g.fine hsub lw.ranked n8
    have gl := g.len
    rw [List.length_range] at gl
    have cle := g.cost_le (c := c) hsub lw.ranked n8 p0 srt pm0 kp0
    refine ⟨_, rfl, _, rfl, aw, oa, c, n, p, wt, bs.flatten, rfl, hWK, .inl foa, fun j hj => List.mem_range.mp (g.perm.mem_iff.mp hj), ?_⟩
    have c1 : decide (cost p wt c bs.flatten > m) = false := decide_eq_false (by omega)
    refine ⟨_, rfl, _, rfl, _, _, rfl, rfl, _, rfl, ?_⟩
    rw [c1]
    refine iteF ?_
    have es8 : es.length ≤ 8 := by omega
    have hwK := hwH.kt (KT.same (sHJ.trans kK))
    refine ⟨_, rfl, _, rfl, _, rfl, aw, wa, ta, c, n, p, wt, wl, fun j => row.idxOf j, us4, es, rfl, hWK, hwK, lw.ranked, w8, fta, aes, fun e he => (fine e he).1, by omega, fun r9 HL sh kL s0 sd hr9 => ?_⟩
    have gs := g.shown p0 (c := c) srt s0 sd
    rw [gs, (show_frac s0).1, (show_frac s0).2] at hr9
    refine ⟨_, rfl, (by show 2 ≤ sizeLine; decide), fun p9 hp9 => ?_⟩
    generalize hHM : upd HL p9 (.tup [.int (cost p wt c bs.flatten), .int 1]) = HM
    have sM : Same HL HM := by rw [← hHM]; exact same_new hp9
    have fp9 : HM p9 = some (.tup [.int (cost p wt c bs.flatten), .int 1]) := by rw [← hHM]; exact upd_same
    refine ⟨_, _, .tup (SqT.of (sM _ _ hr9)) (.cons (.int _) (.cons (.int _) .nil)), .tup (SqT.of fp9) (.cons (.int _) (.cons (.int _) .nil)), rfl, rfl, _, rfl, ?_⟩
    have ev : PyData.eqv (.tuple [.int (cost p wt c bs.flatten), .int 1]) (.tuple [.int (cost p wt c bs.flatten), .int 1]) = true := by
      show ((cost p wt c bs.flatten == cost p wt c bs.flatten) && (((1 : Int) == 1) && true)) = true
      simp
    rw [ev]
    refine iteF ?_
    -- half of the prices
    have sHM : Same HH HM := sHJ.trans (kK.trans (kL.trans sM))
    have sKM : Same HK HM := kL.trans sM
    have aesM := aes.imp fun v e => EntV.kt (v := v) (e := e) (KT.same sKM)
    have al4 := aes.length
    refine ⟨_, rfl, ta, rfl, ⟨_, SqT.of (sKM _ _ fta)⟩, ?_⟩
    refine for_tup (fun k σ H' => Same HM H' ∧ (∃ (hv : Addr) (us5 : List V), H' hv = some (.tup us5) ∧ All2 (EntV H') us5 (es3 ++ (es.take k).map half) ∧ ∃ x19 x20 x21, σ = [some (.ref sa), some (.ref t), some (.ref aw), some (.ref rr), some (.ref m0), x0, some (nv a), some (nv b), some (nv c'), some (nv d), some (.ref wa), some (.ref ro), some (.int m), some (.ref hv), some (.ref xb), some (.ref wf), some (.ref oa), some (.ref ta), some (.int (cost p wt c bs.flatten)), x19, x20, x21, none, none, none]))
      ⟨Same.refl _, hv, us3, sHM _ _ eh, by rw [List.take_zero, List.map_nil, List.append_nil]; exact ah.imp fun v e => EntV.kt (v := v) (e := e) (KT.same sHM), _, _, _, rfl⟩ (fun k σ H' _ h => SqT.of (h.1 _ _ (sKM _ _ fta))) (fun k x σ HN hx2 h => ?_) (fun σ HN h => ?_)
    · obtain ⟨kN, hv2, us5, eh2, ah2, y19, y20, y21, rfl⟩ := h
      obtain ⟨e, he, v1, v2, v3, rfl, h1, h2, h3⟩ := (aesM.imp fun v e => EntV.kt (v := v) (e := e) (KT.same kN)).get' hx2
      have fe := fine e (List.mem_of_getElem? he)
      have eb0 := fe.1.b0
      refine ⟨_, _, rfl, SqT.of h1, rfl, _, _, rfl, _, _, rfl, _, _, rfl, rfl, ?_⟩
      refine ⟨_, rfl, _, rfl, _, rfl, _, rfl, v3, _, _, _, rfl, rfl, SqT.of h3, atI_nat (j := 0) rfl, ?_⟩
      refine ⟨_, rfl, v3, _, _, _, rfl, rfl, SqT.of h3, atI_nat (j := 1) rfl, _, _, rfl, rfl, .inl ⟨by decide, by decide⟩, e.t, 2 * e.b, rfl, by omega, ?_, fun p6 hp6 => ?_⟩
      · have h59 := fe.2
        have h60 : 2 * e.b < 2 ^ 60 := by omega
        exact Int.lt_of_lt_of_le h60 (pow2_le (by omega))
      refine ⟨(by show 3 ≤ sizeLine; decide), fun p7 hp7 => ⟨(by show 1 ≤ sizeLine; decide), fun p8 hp8 => ?_⟩⟩
      generalize hHO : upd (upd (upd HN p6 (.tup [.int (e.t / (Int.gcd e.t (2 * e.b) : Nat)), .int (2 * e.b / (Int.gcd e.t (2 * e.b) : Nat))])) p7 (.tup [nv e.a, .ref v2, .ref p6])) p8 (.tup [.ref p7]) = HO
      have u6 : Same HN (upd HN p6 (.tup [.int (e.t / (Int.gcd e.t (2 * e.b) : Nat)), .int (2 * e.b / (Int.gcd e.t (2 * e.b) : Nat))])) := same_new hp6
      have u7 : Same (upd HN p6 (.tup [.int (e.t / (Int.gcd e.t (2 * e.b) : Nat)), .int (2 * e.b / (Int.gcd e.t (2 * e.b) : Nat))])) (upd (upd HN p6 (.tup [.int (e.t / (Int.gcd e.t (2 * e.b) : Nat)), .int (2 * e.b / (Int.gcd e.t (2 * e.b) : Nat))])) p7 (.tup [nv e.a, .ref v2, .ref p6])) := same_new hp7
      have u8 : Same (upd (upd HN p6 (.tup [.int (e.t / (Int.gcd e.t (2 * e.b) : Nat)), .int (2 * e.b / (Int.gcd e.t (2 * e.b) : Nat))])) p7 (.tup [nv e.a, .ref v2, .ref p6])) HO := by rw [← hHO]; exact same_new hp8
      have uNO : Same HN HO := u6.trans (u7.trans u8)
      have fp8 : HO p8 = some (.tup [.ref p7]) := by rw [← hHO]; exact upd_same
      have ev2 : EntV HO (.ref p7) (half e) := ⟨p7, v2, p6, rfl, u8 _ _ upd_same, uNO _ _ h2, u8 _ _ (u7 _ _ upd_same)⟩
      have all2 := (ah2.imp fun v e => EntV.kt (v := v) (e := e) (KT.same uNO)).snoc ev2
      have e10 : es3 ++ (es.take (k + 1)).map half = es3 ++ (es.take k).map half ++ [half e] := by
        rw [take_snoc he, List.map_append, List.append_assoc]
        rfl
      have l5 := ah2.length
      rw [List.length_append, List.length_map, List.length_take] at l5
      have nxt : ∀ (q9 : Addr) (HP : Hp), Same HO HP → HP q9 = some (.tup (us5 ++ [.ref p7])) → Same HM HP ∧ (∃ (hv : Addr) (us5 : List V), HP hv = some (.tup us5) ∧ All2 (EntV HP) us5 (es3 ++ (es.take (k + 1)).map half) ∧ ∃ x19 x20 x21, [some (V.ref sa), some (.ref t), some (.ref aw), some (.ref rr), some (.ref m0), x0, some (nv a), some (nv b), some (nv c'), some (nv d), some (.ref wa), some (.ref ro), some (.int m), some (.ref q9), some (.ref xb), some (.ref wf), some (.ref oa), some (.ref ta), some (.int (cost p wt c bs.flatten)), some (nv e.a), some (.ref v2), some (.ref v3), none, none, none] = [some (.ref sa), some (.ref t), some (.ref aw), some (.ref rr), some (.ref m0), x0, some (nv a), some (nv b), some (nv c'), some (nv d), some (.ref wa), some (.ref ro), some (.int m), some (.ref hv), some (.ref xb), some (.ref wf), some (.ref oa), some (.ref ta), some (.int (cost p wt c bs.flatten)), x19, x20, x21, none, none, none]) := fun q9 HP kk e9 =>
        ⟨kN.trans (uNO.trans kk), q9, _, e9, by rw [e10]; exact all2.imp fun v e => EntV.kt (v := v) (e := e) (KT.same kk), _, _, _, rfl⟩
      refine ⟨hv2, p8, us5, [.ref p7], rfl, rfl, SqT.of (uNO _ _ eh2), SqT.of fp8, ?_, fun z => ?_, fun _ z => (by cases z), fun _ _ q9 hq9 => ?_⟩
      · have : us5.length + ([V.ref p7]).length ≤ 100000 := by
          simp only [List.length_cons, List.length_nil]
          omega
        exact Nat.le_of_lt (lst_len this)
      · subst z
        exact nxt p8 HO (Same.refl _) fp8
      · exact nxt q9 _ (same_new hq9) upd_same
    · obtain ⟨kN, hv2, us5, eh2, ah2, y19, y20, y21, rfl⟩ := h
      have tk : es.take us4.length = es := by rw [al4, List.take_length]
      rw [tk] at ah2
      refine ⟨kH.trans (sHM.trans kN), hv2, us5, _, eh2, ah2, fun e he => ?_, ?_, _, _, _, _, _, _, _, _, rfl⟩
      · rcases List.mem_append.mp he with z | z
        · exact fineh e z
        · obtain ⟨e', he', rfl⟩ := List.mem_map.mp z
          exact (fine e' he').1.half (fine e' he').2
      · rw [List.length_append, List.length_map]
        omega
  · obtain ⟨kH, hv, us3, es3, eh, ah, fineh, lenh, x14, x15, x16, x17, x18, x19, x20, x21, rfl⟩ := h
    have hWH := hWG.kt (KT.same kH)
    have hwH := hwG.kt (KT.same kH)
    refine ⟨_, rfl, _, rfl, _, rfl, aw, wa, hv, c, n, p, wt, wl, fun j => row.idxOf j, us3, es3, rfl, hWH, hwH, lw.ranked, w8, eh, ah, fineh, by simp only [List.length_cons, List.length_nil] at lenh; omega, fun r9 HZ sh kZ s0 sd hr9 => ?_⟩
    refine ⟨_, _, rfl, SqT.of hr9, rfl, _, _, rfl, _, _, rfl, rfl, ?_⟩
    have cb := cost_bound (p := p) (w := wt) (M := 1000000) (by decide) (fun j => ⟨Int.le_of_lt (p0 j), (hWH.pp j).2⟩) hWH.ww o0 c hWH.cc.1
    have ol0 : o0.length = n := by rw [pm0.length_eq, List.length_range]
    have cc := hWH.cc
    have mb : m < 2 ^ 64 ∧ 0 ≤ m := by
      rw [ol0] at cb
      rw [em] at cb
      have n8' : (n : Int) ≤ 8 := by omega
      have q1 : 1000000 * (c + (n : Int) * 1000000) ≤ 1000000 * 8000060 := by omega
      have q2 : (n : Int) * (1000000 * (c + (n : Int) * 1000000)) ≤ 8 * (1000000 * 8000060) := Int.mul_le_mul n8' q1 (by omega) (by omega)
      omega
    refine ⟨_, rfl, _, rfl, _, rfl, _, _, rfl, rfl, .inl ⟨by omega, mb.1⟩, _, _, rfl, rfl, ?_⟩
    have sall := shown_all (p := p) (w := wt) (c := c) (rk := fun j => row.idxOf j) (fun j => Int.le_of_lt (p0 j)) fineh pm0 kp0 s0 sd
    rw [em] at sall
    have fin := frac_le_of s0 sall
    have e9 : decide (shown p wt c n sh (fun e => e.t * (sh / e.b)) es3 / ((Int.gcd (shown p wt c n sh (fun e => e.t * (sh / e.b)) es3) sh : Nat) : Int) ≤ m * (sh / ((Int.gcd (shown p wt c n sh (fun e => e.t * (sh / e.b)) es3) sh : Nat) : Int))) = true := decide_eq_true fin
    have := q HZ
    rw [← e9] at this
    exact this
end
end NW
/-! k67 by hand, the end: what the program's top has left -/
namespace NW
open PySem PySem.Spec PyProof.Rows L2
/-- a def stands at its name -/
def DefK (K : PySem.W.Frag) (x : Str) (st : Stmt) : Prop := ∃ (f : Addr) (oc : Value) (od : Option Addr) (kV dc pm : Value) (an : Option Addr) (cd ct : Value) (sl : Array (Option Value)), PySem.W.nsIn K mainGlobals x = some (some (.ref f)) ∧
  K.lookup f = some ⟨oc, od, .func (PySem.W.fnOf x x (defArgs st) (defBody st) (defScope st) .none kV dc pm an cd ct), sl⟩ ∧ PySem.W.codeIn K cd x = true ∧ PySem.W.keepIn K (.ref f) = true
theorem DefK.of {K : PySem.W.Frag} {x : Str} {st : Stmt} {f : Addr} {oc : Value} {od : Option Addr} {kV dc pm : Value} {an : Option Addr} {cd ct : Value} {sl : Array (Option Value)} (a : PySem.W.nsIn K mainGlobals x = some (some (.ref f)))
    (l : K.lookup f = some ⟨oc, od, .func (PySem.W.fnOf x x (defArgs st) (defBody st) (defScope st) .none kV dc pm an cd ct), sl⟩) (c : PySem.W.codeIn K cd x = true) (k : PySem.W.keepIn K (.ref f) = true) : DefK K x st := ⟨f, oc, od, kV, dc, pm, an, cd, ct, sl, a, l, c, k⟩
theorem DefK.df {K : PySem.W.Frag} {h : Heap} {mg : Str → Option Value} {x : Str} {st : Stmt} (X : K.In h) (G : h.Ns mainGlobals mg) (d : DefK K x st) : Df K mg x st := by
  obtain ⟨f, oc, od, kV, dc, pm, an, cd, ct, sl, a, l, c, k⟩ := d
  exact ⟨f, _, fun_mk (st := st) l c k, PySem.W.mg_of X G a⟩
/-- the refusals' classes -/
def ErrK (K : PySem.W.Frag) : Prop := ∃ (B C fI : Addr) (nm q : Str) (N : Addr) (bs : List Value) (sn : List Str) (sub : List Value) (ab : Bool) (col : Option Bool) (dd : Option Addr) (m0 m1 m2 m3 m5 : Option Value) (oc : Value) (od : Option Addr) (kV dc pm : Value) (an : Option Addr) (cd ct : Value) (sl : Array (Option Value)) (N1 N2 N3 N4 N5 N6 N7 : Addr),
  PySem.W.nsIn K mainGlobals "BenchError" = some (some (.ref B)) ∧
  PySem.W.nsIn K mainGlobals "NoRule" = some (some (.ref C)) ∧
  PySem.W.nsIn K mainGlobals "NoBack" = some (some (.ref N1)) ∧
  PySem.W.nsIn K mainGlobals "NoPaper" = some (some (.ref N2)) ∧
  PySem.W.nsIn K mainGlobals "NoRow" = some (some (.ref N3)) ∧
  PySem.W.nsIn K mainGlobals "NoText" = some (some (.ref N4)) ∧
  PySem.W.nsIn K mainGlobals "NoWish" = some (some (.ref N5)) ∧
  PySem.W.nsIn K mainGlobals "NoWork" = some (some (.ref N6)) ∧
  PySem.W.nsIn K mainGlobals "TooMany" = some (some (.ref N7)) ∧
  PySem.W.readsIn K B (.type "type") = true ∧
  PySem.W.specialIn K (.ref B) "__getattribute__" = some (some (.builtin "type.__getattribute__")) ∧
  PySem.W.findCls K (.ref B) (.type "type") "__init__" = some (.val (.builtin "ValueError.__init__")) ∧
  K.lookup C = some (excClassObj nm q C N bs [.ref B, .type "ValueError", .type "Exception", .type "BaseException", .type "object"] true sn sub ab col dd m0 m1 m2 m3 m5 "ValueError.__new__") ∧
  PySem.W.findIn K (.ref C) "__setattr__" = some (some (.builtin "object.__setattr__")) ∧
  PySem.W.subIn K (.ref C) (.type "BaseException") = some true ∧
  PySem.W.typeIn K (.ref C) = some (.type "type") ∧
  PySem.W.keepIn K (.ref C) = true ∧
  PySem.W.isClsIn K C = true ∧
  PySem.W.findIn K (.ref C) "__getattribute__" = some (some (.builtin "BaseException.__getattribute__")) ∧
  PySem.W.findIn K (.ref C) "__getattr__" = some none ∧
  PySem.W.findIn K (.ref C) "__class__" = some (some (.builtin "object.__class__")) ∧
  PySem.W.specialIn K (.builtin "object.__class__") "__get__" = some (some (.builtin "getset_descriptor.__get__")) ∧
  PySem.W.takesIn K (.builtin "object.__class__") = some true ∧
  PySem.W.mroIn K C (.type "object") = some true ∧
  PySem.W.hasDictIn K C = true ∧
  PySem.W.findIn K (.ref C) "word" = some none ∧
  PySem.W.findIn K (.ref C) "__init__" = some (some (.ref fI)) ∧
  PySem.W.typeIn K (.ref fI) = some (.type "function") ∧
  K.lookup fI = some ⟨oc, od, .func (PySem.W.fnOf "__init__" "NoRule.__init__" (defArgs s_init) (defBody s_init) (defScope s_init) .none kV dc pm an cd ct), sl⟩ ∧
  PySem.W.codeIn K cd "NoRule.__init__" = true ∧
  PySem.W.keepIn K (.ref fI) = true ∧
  PySem.W.subIn K (.ref B) (.type "BaseException") = some true ∧
  PySem.W.hasDictIn K B = true ∧
  PySem.W.typeIn K (.ref B) = some (.type "type") ∧
  PySem.W.subIn K (.ref C) (.ref B) = some true ∧
  PySem.W.subIn K (.ref C) (.type "ValueError") = some true ∧
  (Value.ref C == Value.ref N1) = false ∧
  PySem.W.isClsIn K N1 = true ∧
  PySem.W.typeIn K (.ref N1) = some (.type "type") ∧
  PySem.W.subIn K (.ref C) (.ref N1) = some false ∧
  (Value.ref C == Value.ref N2) = false ∧
  PySem.W.isClsIn K N2 = true ∧
  PySem.W.typeIn K (.ref N2) = some (.type "type") ∧
  PySem.W.subIn K (.ref C) (.ref N2) = some false ∧
  (Value.ref C == Value.ref N3) = false ∧
  PySem.W.isClsIn K N3 = true ∧
  PySem.W.typeIn K (.ref N3) = some (.type "type") ∧
  PySem.W.subIn K (.ref C) (.ref N3) = some false ∧
  (Value.ref C == Value.ref N4) = false ∧
  PySem.W.isClsIn K N4 = true ∧
  PySem.W.typeIn K (.ref N4) = some (.type "type") ∧
  PySem.W.subIn K (.ref C) (.ref N4) = some false ∧
  (Value.ref C == Value.ref N5) = false ∧
  PySem.W.isClsIn K N5 = true ∧
  PySem.W.typeIn K (.ref N5) = some (.type "type") ∧
  PySem.W.subIn K (.ref C) (.ref N5) = some false ∧
  (Value.ref C == Value.ref N6) = false ∧
  PySem.W.isClsIn K N6 = true ∧
  PySem.W.typeIn K (.ref N6) = some (.type "type") ∧
  PySem.W.subIn K (.ref C) (.ref N6) = some false ∧
  (Value.ref C == Value.ref N7) = false ∧
  PySem.W.isClsIn K N7 = true ∧
  PySem.W.typeIn K (.ref N7) = some (.type "type") ∧
  PySem.W.subIn K (.ref C) (.ref N7) = some false
theorem ErrK.of {K : PySem.W.Frag} {B C fI : Addr} {nm q : Str} {N : Addr} {bs : List Value} {sn : List Str} {sub : List Value} {ab : Bool} {col : Option Bool} {dd : Option Addr} {m0 m1 m2 m3 m5 : Option Value} {oc : Value} {od : Option Addr} {kV dc pm : Value} {an : Option Addr} {cd ct : Value} {sl : Array (Option Value)} {N1 N2 N3 N4 N5 N6 N7 : Addr}
    (aB : PySem.W.nsIn K mainGlobals "BenchError" = some (some (.ref B)))
    (aC : PySem.W.nsIn K mainGlobals "NoRule" = some (some (.ref C)))
    (a1 : PySem.W.nsIn K mainGlobals "NoBack" = some (some (.ref N1)))
    (a2 : PySem.W.nsIn K mainGlobals "NoPaper" = some (some (.ref N2)))
    (a3 : PySem.W.nsIn K mainGlobals "NoRow" = some (some (.ref N3)))
    (a4 : PySem.W.nsIn K mainGlobals "NoText" = some (some (.ref N4)))
    (a5 : PySem.W.nsIn K mainGlobals "NoWish" = some (some (.ref N5)))
    (a6 : PySem.W.nsIn K mainGlobals "NoWork" = some (some (.ref N6)))
    (a7 : PySem.W.nsIn K mainGlobals "TooMany" = some (some (.ref N7)))
    (rd : PySem.W.readsIn K B (.type "type") = true)
    (gb : PySem.W.specialIn K (.ref B) "__getattribute__" = some (some (.builtin "type.__getattribute__")))
    (at1 : PySem.W.findCls K (.ref B) (.type "type") "__init__" = some (.val (.builtin "ValueError.__init__")))
    (xL : K.lookup C = some (excClassObj nm q C N bs [.ref B, .type "ValueError", .type "Exception", .type "BaseException", .type "object"] true sn sub ab col dd m0 m1 m2 m3 m5 "ValueError.__new__"))
    (sa : PySem.W.findIn K (.ref C) "__setattr__" = some (some (.builtin "object.__setattr__")))
    (eC : PySem.W.subIn K (.ref C) (.type "BaseException") = some true)
    (tC : PySem.W.typeIn K (.ref C) = some (.type "type"))
    (kC : PySem.W.keepIn K (.ref C) = true)
    (iC : PySem.W.isClsIn K C = true)
    (ga : PySem.W.findIn K (.ref C) "__getattribute__" = some (some (.builtin "BaseException.__getattribute__")))
    (gg : PySem.W.findIn K (.ref C) "__getattr__" = some none)
    (gc : PySem.W.findIn K (.ref C) "__class__" = some (some (.builtin "object.__class__")))
    (hn : PySem.W.specialIn K (.builtin "object.__class__") "__get__" = some (some (.builtin "getset_descriptor.__get__")))
    (ht : PySem.W.takesIn K (.builtin "object.__class__") = some true)
    (hm : PySem.W.mroIn K C (.type "object") = some true)
    (hd : PySem.W.hasDictIn K C = true)
    (nw : PySem.W.findIn K (.ref C) "word" = some none)
    (ini : PySem.W.findIn K (.ref C) "__init__" = some (some (.ref fI)))
    (tI : PySem.W.typeIn K (.ref fI) = some (.type "function"))
    (lI : K.lookup fI = some ⟨oc, od, .func (PySem.W.fnOf "__init__" "NoRule.__init__" (defArgs s_init) (defBody s_init) (defScope s_init) .none kV dc pm an cd ct), sl⟩)
    (cI : PySem.W.codeIn K cd "NoRule.__init__" = true)
    (kI : PySem.W.keepIn K (.ref fI) = true)
    (eB : PySem.W.subIn K (.ref B) (.type "BaseException") = some true)
    (hB : PySem.W.hasDictIn K B = true)
    (tB : PySem.W.typeIn K (.ref B) = some (.type "type"))
    (sCB : PySem.W.subIn K (.ref C) (.ref B) = some true)
    (sCV : PySem.W.subIn K (.ref C) (.type "ValueError") = some true)
    (n1 : (Value.ref C == Value.ref N1) = false)
    (i1 : PySem.W.isClsIn K N1 = true)
    (t1 : PySem.W.typeIn K (.ref N1) = some (.type "type"))
    (s1 : PySem.W.subIn K (.ref C) (.ref N1) = some false)
    (n2 : (Value.ref C == Value.ref N2) = false)
    (i2 : PySem.W.isClsIn K N2 = true)
    (t2 : PySem.W.typeIn K (.ref N2) = some (.type "type"))
    (s2 : PySem.W.subIn K (.ref C) (.ref N2) = some false)
    (n3 : (Value.ref C == Value.ref N3) = false)
    (i3 : PySem.W.isClsIn K N3 = true)
    (t3 : PySem.W.typeIn K (.ref N3) = some (.type "type"))
    (s3 : PySem.W.subIn K (.ref C) (.ref N3) = some false)
    (n4 : (Value.ref C == Value.ref N4) = false)
    (i4 : PySem.W.isClsIn K N4 = true)
    (t4 : PySem.W.typeIn K (.ref N4) = some (.type "type"))
    (s4 : PySem.W.subIn K (.ref C) (.ref N4) = some false)
    (n5 : (Value.ref C == Value.ref N5) = false)
    (i5 : PySem.W.isClsIn K N5 = true)
    (t5 : PySem.W.typeIn K (.ref N5) = some (.type "type"))
    (s5 : PySem.W.subIn K (.ref C) (.ref N5) = some false)
    (n6 : (Value.ref C == Value.ref N6) = false)
    (i6 : PySem.W.isClsIn K N6 = true)
    (t6 : PySem.W.typeIn K (.ref N6) = some (.type "type"))
    (s6 : PySem.W.subIn K (.ref C) (.ref N6) = some false)
    (n7 : (Value.ref C == Value.ref N7) = false)
    (i7 : PySem.W.isClsIn K N7 = true)
    (t7 : PySem.W.typeIn K (.ref N7) = some (.type "type"))
    (s7 : PySem.W.subIn K (.ref C) (.ref N7) = some false)
    : ErrK K := ⟨B, C, fI, nm, q, N, bs, sn, sub, ab, col, dd, m0, m1, m2, m3, m5, oc, od, kV, dc, pm, an, cd, ct, sl, N1, N2, N3, N4, N5, N6, N7, aB, aC, a1, a2, a3, a4, a5, a6, a7, rd, gb, at1, xL, sa, eC, tC, kC, iC, ga, gg, gc, hn, ht, hm, hd, nw, ini, tI, lI, cI, kI, eB, hB, tB, sCB, sCV, n1, i1, t1, s1, n2, i2, t2, s2, n3, i3, t3, s3, n4, i4, t4, s4, n5, i5, t5, s5, n6, i6, t6, s6, n7, i7, t7, s7⟩
theorem kit_same {K : PySem.W.Frag} {C : Addr} : PySem.W.kitOne K (.ref C) (.ref C) = some true := by
  unfold PySem.W.kitOne
  rw [if_pos (by simp)]
theorem kit_no {K : PySem.W.Frag} {C N : Addr} {b : Bool} (n : (Value.ref C == Value.ref N) = false) (i : PySem.W.isClsIn K N = true) (t : PySem.W.typeIn K (.ref N) = some (.type "type")) (s : PySem.W.subIn K (.ref C) (.ref N) = some b) : PySem.W.kitOne K (.ref C) (.ref N) = some b := by
  unfold PySem.W.kitOne
  rw [if_neg (by rw [n]; decide)]
  have e2 : ((PySem.W.clsIn K N).isSome && PySem.W.typeIn K (.ref N) == some (.type "type")) = true := by
    have h2' : (PySem.W.clsIn K N).isSome = true := i
    rw [h2', t] <;> rfl
  show (if ((PySem.W.clsIn K N).isSome && PySem.W.typeIn K (.ref N) == some (.type "type")) = true then PySem.W.subIn K (.ref C) (.ref N) else none) = some b
  rw [if_pos e2]
  exact s
theorem kit_ty {K : PySem.W.Frag} {C : Addr} (s : PySem.W.subIn K (.ref C) (.type "ValueError") = some true) : PySem.W.kitOne K (.ref C) (.type "ValueError") = some true := by
  have n : (Value.ref C == Value.type "ValueError") = false := rfl
  unfold PySem.W.kitOne
  rw [if_neg (by rw [n]; decide)]
  have e2 : PySem.W.kitMeta "ValueError" = true := by decide +kernel
  show (if PySem.W.kitMeta "ValueError" = true then PySem.W.subIn K (.ref C) (.type "ValueError") else none) = some true
  rw [if_pos e2]
  exact s
theorem kit_cons {K : PySem.W.Frag} {t c : Value} {r : List Value} (h1 : PySem.W.kitOne K t c = some false) (h2 : PySem.W.kitAny K t r = some false) : PySem.W.kitAny K t (c :: r) = some false := by
  unfold PySem.W.kitAny
  rw [h1]
  exact h2
theorem ErrK.ok {K : PySem.W.Frag} {h : Heap} {mg : Str → Option Value} (X : K.In h) (G : h.Ns mainGlobals mg) (e : ErrK K) : ∃ (B C fI : Addr) (fd : FuncData) (N1 N2 N3 N4 N5 N6 N7 : Addr), ErrT K mg B C fI fd ∧ OthT K mg C N1 N2 N3 N4 N5 N6 N7 := by
  obtain ⟨B, C, fI, nm, q, N, bs, sn, sub, ab, col, dd, m0, m1, m2, m3, m5, oc, od, kV, dc, pm, an, cd, ct, sl, N1, N2, N3, N4, N5, N6, N7, aB, aC, a1, a2, a3, a4, a5, a6, a7, rd, gb, at1, xL, sa, eC, tC, kC, iC, ga, gg, gc, hn, ht, hm, hd, nw, ini, tI, lI, cI, kI, eB, hB, tB, sCB, sCV, n1, i1, t1, s1, n2, i2, t2, s2, n3, i3, t3, s3, n4, i4, t4, s4, n5, i5, t5, s5, n6, i6, t6, s6, n7, i7, t7, s7⟩ := e
  refine ⟨B, C, fI, _, N1, N2, N3, N4, N5, N6, N7,
    { mB := PySem.W.mg_of X G aB, mC := PySem.W.mg_of X G aC, base := ⟨rd, gb, at1⟩,
      oex := ⟨⟨nm, q, N, bs, _, sn, sub, ab, col, dd, m0, m1, m2, m3, m5, xL, ?_⟩, sa, eC, tC, kC⟩,
      err := ⟨iC, ga, gg, eC, gc, hn, ht, hm⟩, xf := ⟨ga, gg, eC, hd⟩, noW := nw, iC := ini, tI := tI, F := fun_mk (st := s_init) lI cI kI,
      xm := PySem.W.exm_ref eB hB tB sCB, k1 := kit_same, k2 := kit_ty sCV },
    ⟨PySem.W.mg_of X G a1, PySem.W.mg_of X G a2, PySem.W.mg_of X G a3, PySem.W.mg_of X G a4, PySem.W.mg_of X G a5, PySem.W.mg_of X G a6, PySem.W.mg_of X G a7,
      kit_cons (kit_no n1 i1 t1 s1) (kit_cons (kit_no n2 i2 t2 s2) (kit_cons (kit_no n3 i3 t3 s3) (kit_cons (kit_no n4 i4 t4 s4) (kit_cons (kit_no n5 i5 t5 s5) (kit_cons (kit_no n6 i6 t6 s6) (kit_cons (kit_no n7 i7 t7 s7) rfl))))))⟩⟩
  show PySem.HandSPX.refsVE [.type "ValueError", .type "Exception", .type "BaseException", .type "object"] = true
  decide +kernel

theorem all_mk {l : PySem.W.OpenLaw} {w : World} {K : PySem.W.Frag} {h : Heap} {mg : Str → Option Value} {fa : Addr} (X : K.In h) (G : h.Ns mainGlobals mg) (hfa : mg "law" = some (.ref fa)) (er : ErrK K)
    (d11 : DefK K "is_number" (top 11))
    (d12 : DefK K "common_divisor" (top 12))
    (d13 : DefK K "is_fraction" (top 13))
    (d14 : DefK K "fraction" (top 14))
    (d15 : DefK K "minus" (top 15))
    (d16 : DefK K "less" (top 16))
    (d18 : DefK K "same_coming" (top 18))
    (d20 : DefK K "ask_ends" (top 20))
    (d21 : DefK K "weights_of" (top 21))
    (d22 : DefK K "least_sum" (top 22))
    (d24 : DefK K "behind" (top 24))
    (d25 : DefK K "is_forest" (top 25))
    (d27 : DefK K "gain" (top 27))
    (d28 : DefK K "is_number_of_work" (top 28))
    (d29 : DefK K "is_some" (top 29))
    (d30 : DefK K "fault" (top 30))
    (d31 : DefK K "ask_prices" (top 31))
    (d32 : DefK K "priced" (top 32))
    (d34 : DefK K "ask_forest" (top 34))
    (d35 : DefK K "rate" (top 35))
    (d36 : DefK K "by_rates" (top 36))
    (d37 : DefK K "paid" (top 37))
    (d38 : DefK K "block_row" (top 38))
    (d39 : DefK K "line" (top 39))
    (d40 : DefK K "whole_line" (top 40))
    (d41 : DefK K "joined" (top 41))
    (d42 : DefK K "forest_order" (top 42))
    (d44 : DefK K "_law_tape" (top 44))
    (d45 : DefK K "_law_pick" (top 45))
    (d46 : DefK K "_law_works" (top 46))
    (d47 : DefK K "_law_row" (top 47))
    (d48 : DefK K "_law_drawn" (top 48))
    (d49 : DefK K "_law_wished" (top 49))
    (d50 : DefK K "_law_orders" (top 50))
    (d51 : DefK K "_law_low" (top 51))
    (d52 : DefK K "_law_cost" (top 52))
    (d53 : DefK K "_law_word" (top 53))
    (d54 : DefK K "law" (top 54))
    (z_len : PySem.W.nsIn K mainGlobals "len" = some none)
    (z_abs : PySem.W.nsIn K mainGlobals "abs" = some none)
    (z_min : PySem.W.nsIn K mainGlobals "min" = some none)
    (z_sum : PySem.W.nsIn K mainGlobals "sum" = some none)
    (z_all : PySem.W.nsIn K mainGlobals "all" = some none)
    (z_set : PySem.W.nsIn K mainGlobals "set" = some none)
    (z_sorted : PySem.W.nsIn K mainGlobals "sorted" = some none)
    (z_isinstance : PySem.W.nsIn K mainGlobals "isinstance" = some none)
    (z_tuple : PySem.W.nsIn K mainGlobals "tuple" = some none)
    (z_list : PySem.W.nsIn K mainGlobals "list" = some none)
    (z_range : PySem.W.nsIn K mainGlobals "range" = some none)
    (z_enumerate : PySem.W.nsIn K mainGlobals "enumerate" = some none)
    (z_zip : PySem.W.nsIn K mainGlobals "zip" = some none)
    (z_int : PySem.W.nsIn K mainGlobals "int" = some none)
    (z_bool : PySem.W.nsIn K mainGlobals "bool" = some none)
    (z_ValueError : PySem.W.nsIn K mainGlobals "ValueError" = some none)
    : ∃ fd : FuncData, (∀ (s : Shared) (v : Value), BindsTo s fd ⟨[v], []⟩ [("_law_script", v)]) ∧ ∀ base : Heap, K.In base → base.Ns mainGlobals mg → FnOk l.prog w K mg base CX0 26 fa fd ["_law_script"] (sp_law K) := by
  have T : Bi mg := ⟨PySem.W.mg_none_of X G z_len, PySem.W.mg_none_of X G z_abs, PySem.W.mg_none_of X G z_min, PySem.W.mg_none_of X G z_sum, PySem.W.mg_none_of X G z_all, PySem.W.mg_none_of X G z_set, PySem.W.mg_none_of X G z_sorted, PySem.W.mg_none_of X G z_isinstance, PySem.W.mg_none_of X G z_tuple, PySem.W.mg_none_of X G z_list, PySem.W.mg_none_of X G z_range, PySem.W.mg_none_of X G z_enumerate, PySem.W.mg_none_of X G z_zip, PySem.W.mg_none_of X G z_int, PySem.W.mg_none_of X G z_bool, PySem.W.mg_none_of X G z_ValueError⟩
  obtain ⟨B, C, fI, fdI, N1, N2, N3, N4, N5, N6, N7, TE, TO⟩ := er.ok X G
  obtain ⟨f, oc, od, kV, dc, pm, an, cd, ct, sl, a, l54, c, k⟩ := id d54
  have e := hfa.symm.trans (PySem.W.mg_of X G a)
  cases e
  refine ⟨PySem.W.fnOf "law" "law" (defArgs (top 54)) (defBody (top 54)) (defScope (top 54)) .none kV dc pm an cd ct, fun s v => .of_eq rfl, fun base _ _ => ?_⟩
  have F : Fun K "law" "law" (top 54) fa _ := fun_mk (st := top 54) l54 c k
  have R_less := r_less (P := l.prog) (w := w) (base := base) (d16.df X G)
  have R_gcd := r_common_divisor (P := l.prog) (w := w) (base := base) (d12.df X G)
  have R_fraction := r_fraction (d14.df X G) T R_gcd
  have R_is_number := r_is_number (P := l.prog) (w := w) (base := base) (d11.df X G) T
  have R_is_fraction := r_is_fraction (d13.df X G) T R_is_number R_gcd
  have R_inow := r_is_number_of_work (P := l.prog) (w := w) (base := base) (d28.df X G) T
  have R_same := r_same_coming (P := l.prog) (w := w) (base := base) (d18.df X G) T
  have R_ask_ends := r_ask_ends (d20.df X G) T R_same
  have R_weights := r_weights_of (P := l.prog) (w := w) (base := base) (d21.df X G)
  have R_gain := r_gain (P := l.prog) (w := w) (base := base) (d27.df X G)
  have R_least := r_least_sum (P := l.prog) (w := w) (base := base) (d22.df X G) T
  have R_minus := r_minus (d15.df X G) R_fraction
  have R_rate := r_rate (d35.df X G) T R_fraction
  have R_by := r_by_rates (d36.df X G) T R_less R_rate
  have R_paid := r_paid (d37.df X G) T R_minus R_rate
  have R_is_some := r_is_some (d29.df X G) T R_inow
  have R_behind := r_behind (P := l.prog) (w := w) (base := base) (d24.df X G) T
  have R_fault := r_fault (d30.df X G) T R_inow R_is_some R_behind R_is_fraction
  have R_ask_prices := r_ask_prices (d31.df X G) T R_fault
  have R_priced := r_priced (d32.df X G) T R_ask_ends R_ask_prices R_fraction R_weights R_gain R_least
  have R_is_forest := r_is_forest (P := l.prog) (w := w) (base := base) (d25.df X G) T
  have R_ask_forest := r_ask_forest (d34.df X G) T R_ask_ends R_is_forest
  have R_line := r_lines (d39.df X G) (d38.df X G) T R_by R_less R_rate R_paid 9
  have R_whole := r_whole_line (d40.df X G) T R_line
  have R_forest := r_forest_order (d42.df X G) T R_ask_forest R_whole
  have R_askX := r_ask_forestX (d34.df X G) T TE R_ask_ends R_is_forest
  have R_joinedX := r_joinedX (d41.df X G) R_askX
  have R_forestX := r_forest_orderX (d42.df X G) R_askX
  have R_word := r_word (d53.df X G) T TE TO R_joinedX R_forestX
  have R_tape := r_tape (P := l.prog) (w := w) (base := base) (d44.df X G) T
  have R_pick := r_pick (P := l.prog) (w := w) (base := base) (d45.df X G) T
  have R_works := r_works (d46.df X G) T R_pick
  have R_row := r_rowT (d47.df X G) T R_pick
  have R_drawn := r_drawn (d48.df X G) T R_pick
  have R_wished := r_wished (P := l.prog) (w := w) (base := base) (d49.df X G)
  have R_orders := r_orders (d50.df X G) T R_drawn R_wished
  have R_low := r_low (P := l.prog) (w := w) (base := base) (d51.df X G) T
  have R_cost := r_cost (P := l.prog) (w := w) (base := base) (d52.df X G)
  exact r_law F T R_tape R_pick R_works R_row R_word R_orders R_cost R_forest R_priced R_low
theorem walk {l : PySem.W.OpenLaw} {q : Program} {loose : List Str} {XP : (Str → Option Value) → Heap → Prop} {YP : World → Heap → Prop} {d : DefRec} {K : Params → PySem.W.Frag} (hn : l.most = some 63) (hdf : d.params.defaults = [])
    (hY : ∀ (w : World) (h : Heap), YP w h → (K w.params).In h)
    (F : ∀ (w : World) (mg : Str → Option Value) (fa : Addr) (h : Heap), (K w.params).In h → h.Ns mainGlobals mg → mg d.name = some (.ref fa) →
      ∃ fd : FuncData, (∀ (s : Shared) (u : Value), BindsTo s fd ⟨[u], []⟩ [("_law_script", u)]) ∧ ∀ base : Heap, (K w.params).In base → base.Ns mainGlobals mg → FnOk l.prog w (K w.params) mg base CX0 26 fa fd ["_law_script"] (sp_law (K w.params))) :
    PySem.W.WalkO q loose XP YP l.row.toRowW d [] (fun f vs => PySem.call f vs) :=
  L2.walk_of (n := 63) (k := 26) (x := "_law_script") (CX := fun _ => CX0) (sp := fun w => sp_law (K w.params)) hn (by decide) hdf ⟨rfl, by decide, by decide⟩ hY F (fun _ _ a ns _ _ hS => ⟨a, ns, rfl, hS, fun _ => rfl⟩) fun _ _ _ _ _ z => z
end NW
open PySem PySem.W PyProof.Rows
set_option maxRecDepth 100000 in
set_option maxHeartbeats 0 in
theorem PySem.Challenge.cw_benchdays_k67_whole_an_n_of_wishes_holds : PySem.Challenge.rw_benchdays_k67_whole_an_n_of_wishes.Holds := by
  w_on; o_law; k_head; (case hw => w_witness2)
  k_fill
  refine NW.walk (l := PySem.Challenge.rw_benchdays_k67_whole_an_n_of_wishes) rfl rfl (fun w h Y => PySem.W.kIn_of Y) ?F
  case F =>
    intro w mg fa h KX G hmg
    refine' NW.all_mk KX G hmg ?er ?d11 ?d12 ?d13 ?d14 ?d15 ?d16 ?d18 ?d20 ?d21 ?d22 ?d24 ?d25 ?d27 ?d28 ?d29 ?d30 ?d31 ?d32 ?d34 ?d35 ?d36 ?d37 ?d38 ?d39 ?d40 ?d41 ?d42 ?d44 ?d45 ?d46 ?d47 ?d48 ?d49 ?d50 ?d51 ?d52 ?d53 ?d54 ?z_len ?z_abs ?z_min ?z_sum ?z_all ?z_set ?z_sorted ?z_isinstance ?z_tuple ?z_list ?z_range ?z_enumerate ?z_zip ?z_int ?z_bool ?z_ValueError
    case er =>
      refine' NW.ErrK.of ?aB ?aC ?a1 ?a2 ?a3 ?a4 ?a5 ?a6 ?a7 ?rd ?gb ?at1 ?xL ?sa ?eC ?tC ?kC ?iC ?ga ?gg ?gc ?hn ?ht ?hm ?hd ?nw ?ini ?tI ?lI ?cI ?kI ?eB ?hB ?tB ?sCB ?sCV ?n1 ?i1 ?t1 ?s1 ?n2 ?i2 ?t2 ?s2 ?n3 ?i3 ?t3 ?s3 ?n4 ?i4 ?t4 ?s4 ?n5 ?i5 ?t5 ?s5 ?n6 ?i6 ?t6 ?s6 ?n7 ?i7 ?t7 ?s7
      (case aB => k_is)
      (case aC => k_is)
      (case a1 => k_is)
      (case a2 => k_is)
      (case a3 => k_is)
      (case a4 => k_is)
      (case a5 => k_is)
      (case a6 => k_is)
      (case a7 => k_is)
      (case rd => k_is)
      (case gb => k_is)
      (case at1 => k_is)
      (case xL => k_is)
      (case sa => k_is)
      (case eC => k_is)
      (case tC => k_is)
      (case kC => k_is)
      (case iC => k_is)
      (case ga => k_is)
      (case gg => k_is)
      (case gc => k_is)
      (case hn => k_is)
      (case ht => k_is)
      (case hm => k_is)
      (case hd => k_is)
      (case nw => k_is)
      (case ini => k_is)
      (case tI => k_is)
      (case lI => k_is)
      (case cI => k_is)
      (case kI => k_is)
      (case eB => k_is)
      (case hB => k_is)
      (case tB => k_is)
      (case sCB => k_is)
      (case sCV => k_is)
      (case n1 => decide +kernel)
      (case i1 => k_is)
      (case t1 => k_is)
      (case s1 => k_is)
      (case n2 => decide +kernel)
      (case i2 => k_is)
      (case t2 => k_is)
      (case s2 => k_is)
      (case n3 => decide +kernel)
      (case i3 => k_is)
      (case t3 => k_is)
      (case s3 => k_is)
      (case n4 => decide +kernel)
      (case i4 => k_is)
      (case t4 => k_is)
      (case s4 => k_is)
      (case n5 => decide +kernel)
      (case i5 => k_is)
      (case t5 => k_is)
      (case s5 => k_is)
      (case n6 => decide +kernel)
      (case i6 => k_is)
      (case t6 => k_is)
      (case s6 => k_is)
      (case n7 => decide +kernel)
      (case i7 => k_is)
      (case t7 => k_is)
      (case s7 => k_is)
    case d11 =>
      refine' NW.DefK.of ?a ?l ?c ?k
      (case a => k_is); (case l => k_is); (case c => k_is); (case k => k_is)
    case d12 =>
      refine' NW.DefK.of ?a ?l ?c ?k
      (case a => k_is); (case l => k_is); (case c => k_is); (case k => k_is)
    case d13 =>
      refine' NW.DefK.of ?a ?l ?c ?k
      (case a => k_is); (case l => k_is); (case c => k_is); (case k => k_is)
    case d14 =>
      refine' NW.DefK.of ?a ?l ?c ?k
      (case a => k_is); (case l => k_is); (case c => k_is); (case k => k_is)
    case d15 =>
      refine' NW.DefK.of ?a ?l ?c ?k
      (case a => k_is); (case l => k_is); (case c => k_is); (case k => k_is)
    case d16 =>
      refine' NW.DefK.of ?a ?l ?c ?k
      (case a => k_is); (case l => k_is); (case c => k_is); (case k => k_is)
    case d18 =>
      refine' NW.DefK.of ?a ?l ?c ?k
      (case a => k_is); (case l => k_is); (case c => k_is); (case k => k_is)
    case d20 =>
      refine' NW.DefK.of ?a ?l ?c ?k
      (case a => k_is); (case l => k_is); (case c => k_is); (case k => k_is)
    case d21 =>
      refine' NW.DefK.of ?a ?l ?c ?k
      (case a => k_is); (case l => k_is); (case c => k_is); (case k => k_is)
    case d22 =>
      refine' NW.DefK.of ?a ?l ?c ?k
      (case a => k_is); (case l => k_is); (case c => k_is); (case k => k_is)
    case d24 =>
      refine' NW.DefK.of ?a ?l ?c ?k
      (case a => k_is); (case l => k_is); (case c => k_is); (case k => k_is)
    case d25 =>
      refine' NW.DefK.of ?a ?l ?c ?k
      (case a => k_is); (case l => k_is); (case c => k_is); (case k => k_is)
    case d27 =>
      refine' NW.DefK.of ?a ?l ?c ?k
      (case a => k_is); (case l => k_is); (case c => k_is); (case k => k_is)
    case d28 =>
      refine' NW.DefK.of ?a ?l ?c ?k
      (case a => k_is); (case l => k_is); (case c => k_is); (case k => k_is)
    case d29 =>
      refine' NW.DefK.of ?a ?l ?c ?k
      (case a => k_is); (case l => k_is); (case c => k_is); (case k => k_is)
    case d30 =>
      refine' NW.DefK.of ?a ?l ?c ?k
      (case a => k_is); (case l => k_is); (case c => k_is); (case k => k_is)
    case d31 =>
      refine' NW.DefK.of ?a ?l ?c ?k
      (case a => k_is); (case l => k_is); (case c => k_is); (case k => k_is)
    case d32 =>
      refine' NW.DefK.of ?a ?l ?c ?k
      (case a => k_is); (case l => k_is); (case c => k_is); (case k => k_is)
    case d34 =>
      refine' NW.DefK.of ?a ?l ?c ?k
      (case a => k_is); (case l => k_is); (case c => k_is); (case k => k_is)
    case d35 =>
      refine' NW.DefK.of ?a ?l ?c ?k
      (case a => k_is); (case l => k_is); (case c => k_is); (case k => k_is)
    case d36 =>
      refine' NW.DefK.of ?a ?l ?c ?k
      (case a => k_is); (case l => k_is); (case c => k_is); (case k => k_is)
    case d37 =>
      refine' NW.DefK.of ?a ?l ?c ?k
      (case a => k_is); (case l => k_is); (case c => k_is); (case k => k_is)
    case d38 =>
      refine' NW.DefK.of ?a ?l ?c ?k
      (case a => k_is); (case l => k_is); (case c => k_is); (case k => k_is)
    case d39 =>
      refine' NW.DefK.of ?a ?l ?c ?k
      (case a => k_is); (case l => k_is); (case c => k_is); (case k => k_is)
    case d40 =>
      refine' NW.DefK.of ?a ?l ?c ?k
      (case a => k_is); (case l => k_is); (case c => k_is); (case k => k_is)
    case d41 =>
      refine' NW.DefK.of ?a ?l ?c ?k
      (case a => k_is); (case l => k_is); (case c => k_is); (case k => k_is)
    case d42 =>
      refine' NW.DefK.of ?a ?l ?c ?k
      (case a => k_is); (case l => k_is); (case c => k_is); (case k => k_is)
    case d44 =>
      refine' NW.DefK.of ?a ?l ?c ?k
      (case a => k_is); (case l => k_is); (case c => k_is); (case k => k_is)
    case d45 =>
      refine' NW.DefK.of ?a ?l ?c ?k
      (case a => k_is); (case l => k_is); (case c => k_is); (case k => k_is)
    case d46 =>
      refine' NW.DefK.of ?a ?l ?c ?k
      (case a => k_is); (case l => k_is); (case c => k_is); (case k => k_is)
    case d47 =>
      refine' NW.DefK.of ?a ?l ?c ?k
      (case a => k_is); (case l => k_is); (case c => k_is); (case k => k_is)
    case d48 =>
      refine' NW.DefK.of ?a ?l ?c ?k
      (case a => k_is); (case l => k_is); (case c => k_is); (case k => k_is)
    case d49 =>
      refine' NW.DefK.of ?a ?l ?c ?k
      (case a => k_is); (case l => k_is); (case c => k_is); (case k => k_is)
    case d50 =>
      refine' NW.DefK.of ?a ?l ?c ?k
      (case a => k_is); (case l => k_is); (case c => k_is); (case k => k_is)
    case d51 =>
      refine' NW.DefK.of ?a ?l ?c ?k
      (case a => k_is); (case l => k_is); (case c => k_is); (case k => k_is)
    case d52 =>
      refine' NW.DefK.of ?a ?l ?c ?k
      (case a => k_is); (case l => k_is); (case c => k_is); (case k => k_is)
    case d53 =>
      refine' NW.DefK.of ?a ?l ?c ?k
      (case a => k_is); (case l => k_is); (case c => k_is); (case k => k_is)
    case d54 =>
      refine' NW.DefK.of ?a ?l ?c ?k
      (case a => k_is); (case l => k_is); (case c => k_is); (case k => k_is)
    (case z_len => k_is)
    (case z_abs => k_is)
    (case z_min => k_is)
    (case z_sum => k_is)
    (case z_all => k_is)
    (case z_set => k_is)
    (case z_sorted => k_is)
    (case z_isinstance => k_is)
    (case z_tuple => k_is)
    (case z_list => k_is)
    (case z_range => k_is)
    (case z_enumerate => k_is)
    (case z_zip => k_is)
    (case z_int => k_is)
    (case z_bool => k_is)
    (case z_ValueError => k_is)
