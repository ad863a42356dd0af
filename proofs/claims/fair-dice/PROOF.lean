import PyProof.Rows.All
import Wide.All
import OpenK.AllK
import Wide.FinOn
import HandS.ForMost
import HandS.Gcd
import HandS.More
import HandS.Conv
import HandS.Sort
import HandS.SortOrd
import HandS.SortRule
import HandS.SortInts
import KE.KSortTupAny
import HandS.Walk
import HandS.Codes
import PySem.Challenge.RW_samphire_k13_whole_fair_dice
set_option Elab.async false
set_option linter.all false
set_option maxRecDepth 100000
set_option maxHeartbeats 4000000
/-! The plain law: trees of picks, the runs of an explorer, tapes of all lists of places. No program in sight. -/
namespace Fd
set_option autoImplicit false

/-- a tree of picks -/
inductive Tr (O : Type) where
  | leaf (o : O)
  | node (ws : List Nat) (kid : Nat → Tr O)

/-- a path: number and weights of each pick -/
abbrev Path := List (Nat × List Nat)

def pos (ws : List Nat) (k : Nat) : Bool := decide (0 < ws.getD k 0)

/-! ### numbers at a place -/
def nAt : List Nat → Nat → Nat
  | [], _ => 0
  | w :: r, p => if p < w then 0 else nAt r (p - w) + 1

theorem nAt_pos : ∀ {ws : List Nat} {p : Nat}, p < ws.sum → 0 < ws.getD (nAt ws p) 0 ∧ nAt ws p < ws.length
  | [], p, h => by simp at h
  | w :: r, p, h => by
    rw [List.sum_cons] at h
    unfold nAt
    by_cases hp : p < w
    · rw [if_pos hp]
      constructor
      · show 0 < w
        omega
      · exact Nat.succ_pos _
    · rw [if_neg hp]
      obtain ⟨a, b⟩ := nAt_pos (ws := r) (p := p - w) (by omega)
      constructor
      · show 0 < r.getD (nAt r (p - w)) 0
        exact a
      · show nAt r (p - w) + 1 < r.length + 1
        omega

/-- sums over a range -/
def Sm (n : Nat) (f : Nat → Nat) : Nat := ((List.range n).map f).sum
theorem Sm_zero (f : Nat → Nat) : Sm 0 f = 0 := rfl
theorem Sm_succ (n : Nat) (f : Nat → Nat) : Sm (n + 1) f = Sm n f + f n := by
  unfold Sm
  rw [List.range_succ, List.map_append, List.sum_append]
  simp
theorem Sm_congr {n : Nat} {f g : Nat → Nat} (h : ∀ i, i < n → f i = g i) : Sm n f = Sm n g := by
  induction n with
  | zero => rfl
  | succ n ih =>
    rw [Sm_succ, Sm_succ, ih fun i hi => h i (by omega), h n (by omega)]
theorem Sm_add (n m : Nat) (f : Nat → Nat) : Sm (n + m) f = Sm n f + Sm m (fun i => f (n + i)) := by
  induction m with
  | zero => rfl
  | succ m ih =>
    rw [← Nat.add_assoc, Sm_succ, Sm_succ, ih, Nat.add_assoc]
theorem Sm_const (n c : Nat) : Sm n (fun _ => c) = n * c := by
  induction n with
  | zero => simp [Sm_zero]
  | succ n ih => rw [Sm_succ, ih, Nat.succ_mul]
theorem Sm_mul (n c : Nat) (f : Nat → Nat) : Sm n (fun i => c * f i) = c * Sm n f := by
  induction n with
  | zero => simp [Sm_zero]
  | succ n ih => rw [Sm_succ, Sm_succ, ih, Nat.mul_add]
theorem Sm_plus (n : Nat) (f g : Nat → Nat) : Sm n (fun i => f i + g i) = Sm n f + Sm n g := by
  induction n with
  | zero => rfl
  | succ n ih => rw [Sm_succ, Sm_succ, Sm_succ, ih]; omega
theorem Sm_shift (n : Nat) (f : Nat → Nat) : Sm (n + 1) f = f 0 + Sm n (fun i => f (i + 1)) := by
  rw [Nat.add_comm n 1, Sm_add]
  have e : Sm 1 f = f 0 := by rw [Sm_succ, Sm_zero, Nat.zero_add]
  rw [e]
  congr 1
  exact Sm_congr fun i _ => by rw [Nat.add_comm]

/-- each number comes as often as its weight says -/
theorem sum_nAt (f : Nat → Nat) : ∀ ws : List Nat, Sm ws.sum (fun p => f (nAt ws p)) = Sm ws.length (fun k => ws.getD k 0 * f k) := by
  intro ws
  induction ws generalizing f with
  | nil => rfl
  | cons w r ih =>
    rw [List.sum_cons, Sm_add, List.length_cons, Sm_shift]
    have e1 : Sm w (fun p => f (nAt (w :: r) p)) = w * f 0 := by
      rw [← Sm_const]
      refine Sm_congr fun i hi => ?_
      unfold nAt
      rw [if_pos hi]
    have e2 : Sm r.sum (fun i => f (nAt (w :: r) (w + i))) = Sm r.length (fun i => (w :: r).getD (i + 1) 0 * f (i + 1)) := by
      show _ = Sm r.length fun k => r.getD k 0 * f (k + 1)
      rw [← ih (fun k => f (k + 1))]
      refine Sm_congr fun i hi => ?_
      have q : nAt (w :: r) (w + i) = nAt r i + 1 := by
        show (if w + i < w then 0 else nAt r (w + i - w) + 1) = nAt r i + 1
        rw [if_neg (by omega)]
        congr 2
        omega
      rw [q]
    rw [e1, e2]
    rfl
theorem sum_mod (s c : Nat) (hs : 0 < s) (f : Nat → Nat) : Sm (c * s) (fun p => f (p % s)) = c * Sm s f := by
  induction c with
  | zero => simp [Sm_zero]
  | succ c ih =>
    rw [Nat.succ_mul, Sm_add, ih, Nat.succ_mul]
    congr 1
    refine Sm_congr fun i hi => ?_
    rw [Nat.add_comm, Nat.add_mul_mod_self_right, Nat.mod_eq_of_lt hi]

/-! ### the tree's measures -/
section
variable {O : Type}
def Tr.Ok : Tr O → Prop
  | .leaf _ => True
  | .node ws kid => 0 < ws.sum ∧ ws.length ≤ 3 ∧ (∀ w ∈ ws, w ≤ 3) ∧ ∀ k, pos ws k = true → (kid k).Ok
/-- at most n deep -/
def Tr.Dp : Tr O → Nat → Prop
  | .leaf _, _ => True
  | .node _ _, 0 => False
  | .node ws kid, n + 1 => ∀ k, pos ws k = true → (kid k).Dp n
/-- all sums divide N -/
def Tr.Dv (N : Nat) : Tr O → Prop
  | .leaf _ => True
  | .node ws kid => ws.sum ∣ N ∧ ∀ k, pos ws k = true → (kid k).Dv N
theorem Tr.Dp.mono : ∀ {t : Tr O} {n m : Nat}, t.Dp n → n ≤ m → t.Dp m
  | .leaf _, _, _, _, _ => by simp [Tr.Dp]
  | .node _ _, 0, _, h, _ => h.elim
  | .node ws kid, n + 1, 0, _, h => by omega
  | .node ws kid, n + 1, m + 1, h, hm => fun k hk => (h k hk).mono (by omega)
theorem Tr.Dv.mono {N M : Nat} (hd : N ∣ M) : ∀ {t : Tr O}, t.Dv N → t.Dv M
  | .leaf _, _ => trivial
  | .node ws kid, h => ⟨Nat.dvd_trans h.1 hd, fun k hk => (h.2 k hk).mono hd⟩
end

/-! ### tapes of all lists -/
section
variable {O : Type}
/-- the outcome with a tape -/
def follow : Tr O → List Nat → O
  | .leaf o, _ => o
  | .node ws kid, l => follow (kid (nAt ws (l.headD 0 % ws.sum))) l.tail

def lists (N : Nat) : Nat → List (List Nat)
  | 0 => [[]]
  | d + 1 => (List.range N).flatMap fun n => (lists N d).map (n :: ·)
/-- the same, made longer at the end -/
def listsE (N : Nat) : Nat → List (List Nat)
  | 0 => [[]]
  | d + 1 => (listsE N d).flatMap fun l => (List.range N).map fun n => l ++ [n]
theorem listsE_eq (N : Nat) : ∀ d, listsE N d = lists N d
  | 0 => rfl
  | 1 => by
    show ([[]] : List (List Nat)).flatMap _ = _
    unfold lists
    simp [lists, List.flatMap_cons]
    induction List.range N with
    | nil => rfl
    | cons a r ih => simp [List.flatMap_cons, ih]
  | d + 2 => by
    have ih := listsE_eq N (d + 1)
    have e : listsE N (d + 2) = (lists N (d + 1)).flatMap fun l => (List.range N).map fun n => l ++ [n] := by
      rw [← ih]; rfl
    have ih2 : (lists N d).flatMap (fun l => (List.range N).map fun n => l ++ [n]) = lists N (d + 1) := by
      rw [← ih, ← listsE_eq N d]; rfl
    rw [e]
    show ((List.range N).flatMap fun n => (lists N d).map (n :: ·)).flatMap _ = (List.range N).flatMap fun n => (lists N (d + 1)).map (n :: ·)
    rw [List.flatMap_assoc]
    congr 1
    funext n
    rw [← ih2, List.flatMap_map, List.map_flatMap]
    congr 1
    funext l
    rw [List.map_map]
    rfl
theorem lists_len (N : Nat) : ∀ d, (lists N d).length = N ^ d
  | 0 => rfl
  | d + 1 => by
    show ((List.range N).flatMap fun n => (lists N d).map (n :: ·)).length = N ^ (d + 1)
    rw [List.length_flatMap]
    have e : ((List.range N).map fun a => ((lists N d).map (a :: ·)).length) = (List.range N).map fun _ => N ^ d := by
      congr 1
      funext a
      rw [List.length_map, lists_len N d]
    rw [e]
    have q := Sm_const N (N ^ d)
    unfold Sm at q
    rw [q, Nat.pow_succ, Nat.mul_comm]
theorem lists_at (N : Nat) : ∀ (d : Nat) (l : List Nat), l ∈ lists N d → l.length = d ∧ ∀ n ∈ l, n < N
  | 0, l, h => by
    have e : l = [] := List.mem_singleton.mp h
    subst e
    exact ⟨rfl, fun n hn => by simp at hn⟩
  | d + 1, l, h => by
    obtain ⟨n, hn, hl⟩ := List.mem_flatMap.mp h
    obtain ⟨r, hr, e⟩ := List.mem_map.mp hl
    subst e
    obtain ⟨a, b⟩ := lists_at N d r hr
    refine ⟨by rw [List.length_cons, a], fun m hm => ?_⟩
    rcases List.mem_cons.mp hm with q | q
    · rw [q]; exact List.mem_range.mp hn
    · exact b m q

variable [DecidableEq O]
def mass (N : Nat) : Tr O → Nat → O → Nat
  | .leaf o', d, o => if o' = o then N ^ d else 0
  | .node _ _, 0, _ => 0
  | .node ws kid, d + 1, o => (N / ws.sum) * Sm ws.length fun k => ws.getD k 0 * mass N (kid k) d o

theorem count_const {α : Type} (o o' : O) (l : List α) : (l.map fun _ => o').count o = if o' = o then l.length else 0 := by
  induction l with
  | nil => simp
  | cons a r ih =>
    rw [List.map_cons, List.count_cons, ih]
    by_cases h : o' = o <;> simp [h]
theorem count_flatMap {α : Type} (f : α → List O) (o : O) : ∀ l : List α, (l.flatMap f).count o = (l.map fun a => (f a).count o).sum
  | [] => rfl
  | a :: r => by rw [List.flatMap_cons, List.count_append, count_flatMap f o r, List.map_cons, List.sum_cons]

theorem Sm_drop_zero {n : Nat} {f g : Nat → Nat} (h : ∀ k, k < n → f k = g k) : Sm n f = Sm n g := Sm_congr h

theorem count_follow (N : Nat) (hN : 0 < N) (o : O) : ∀ (t : Tr O) (d : Nat), t.Ok → t.Dv N → t.Dp d → ((lists N d).map (follow t)).count o = mass N t d o
  | .leaf o', d, _, _, _ => by
    show ((lists N d).map fun _ => o').count o = _
    rw [count_const, lists_len]
    rfl
  | .node ws kid, 0, _, _, h => h.elim
  | .node ws kid, d + 1, ok, dv, dp => by
    obtain ⟨hs, hl, _, hk⟩ := ok
    obtain ⟨⟨c, hc⟩, hk2⟩ := dv
    have ih : ∀ k, pos ws k = true → ((lists N d).map (follow (kid k))).count o = mass N (kid k) d o := fun k hp =>
      count_follow N hN o (kid k) d (hk k hp) (hk2 k hp) (dp k hp)
    show (((List.range N).flatMap fun n => (lists N d).map (n :: ·)).map (follow (.node ws kid))).count o = _
    rw [List.map_flatMap, count_flatMap]
    have e1 : ((List.range N).map fun a => (((lists N d).map (a :: ·)).map (follow (.node ws kid))).count o) = (List.range N).map fun a => (fun q => (fun k => mass N (kid k) d o) (nAt ws q)) (a % ws.sum) := by
      apply List.map_congr_left
      intro a ha
      rw [List.map_map]
      have q : (follow (.node ws kid) ∘ fun x => a :: x) = follow (kid (nAt ws (a % ws.sum))) := by
        funext l
        rfl
      rw [q, ih]
      exact decide_eq_true (nAt_pos (Nat.mod_lt _ hs)).1
    rw [e1]
    have hc' : N = c * ws.sum := by rw [hc, Nat.mul_comm]
    have e2 := sum_mod ws.sum c hs (fun q => (fun k => mass N (kid k) d o) (nAt ws q))
    rw [← hc'] at e2
    unfold Sm at e2
    rw [e2]
    have e3 := sum_nAt (fun k => mass N (kid k) d o) ws
    unfold Sm at e3
    rw [e3]
    show _ = (N / ws.sum) * _
    have e4 : N / ws.sum = c := by rw [hc, Nat.mul_div_cancel_left _ hs]
    rw [e4]
    rfl
end

/-! ### fractions in lowest terms, as pairs of naturals -/
def fr (a b : Nat) : Nat × Nat := (a / Nat.gcd a b, b / Nat.gcd a b)
theorem fr_eq {a b c d : Nat} (hb : 0 < b) (hd : 0 < d) (h : a * d = c * b) : fr a b = fr c d := by
  have key : ∀ {a b c d : Nat}, 0 < b → 0 < d → a * d = c * b → b / Nat.gcd a b ∣ d / Nat.gcd c d := by
    intro a b c d hb hd h
    have ga : 0 < Nat.gcd a b := Nat.gcd_pos_of_pos_right _ hb
    have gc : 0 < Nat.gcd c d := Nat.gcd_pos_of_pos_right _ hd
    have cop : Nat.Coprime (a / Nat.gcd a b) (b / Nat.gcd a b) := Nat.coprime_div_gcd_div_gcd ga
    obtain ⟨a', ha⟩ := Nat.gcd_dvd_left a b
    obtain ⟨b', hb'⟩ := Nat.gcd_dvd_right a b
    obtain ⟨c', hc⟩ := Nat.gcd_dvd_left c d
    obtain ⟨d', hd'⟩ := Nat.gcd_dvd_right c d
    have ea : a / Nat.gcd a b = a' := Nat.div_eq_of_eq_mul_right ga ha
    have eb : b / Nat.gcd a b = b' := Nat.div_eq_of_eq_mul_right ga hb'
    have ec : c / Nat.gcd c d = c' := Nat.div_eq_of_eq_mul_right gc hc
    have ed : d / Nat.gcd c d = d' := Nat.div_eq_of_eq_mul_right gc hd'
    rw [eb, ed]
    rw [ea, eb] at cop
    have e : a' * d' = c' * b' := by
      have h2 : (Nat.gcd a b * a') * (Nat.gcd c d * d') = (Nat.gcd c d * c') * (Nat.gcd a b * b') := by
        rw [← ha, ← hd', ← hc, ← hb']; exact h
      have h3 : (Nat.gcd a b * Nat.gcd c d) * (a' * d') = (Nat.gcd a b * Nat.gcd c d) * (c' * b') := by
        calc (Nat.gcd a b * Nat.gcd c d) * (a' * d') = (Nat.gcd a b * a') * (Nat.gcd c d * d') := by
              simp only [Nat.mul_assoc, Nat.mul_left_comm, Nat.mul_comm]
          _ = (Nat.gcd c d * c') * (Nat.gcd a b * b') := h2
          _ = (Nat.gcd a b * Nat.gcd c d) * (c' * b') := by simp only [Nat.mul_assoc, Nat.mul_left_comm, Nat.mul_comm]
      exact Nat.eq_of_mul_eq_mul_left (Nat.mul_pos ga gc) h3
    have dv : b' ∣ a' * d' := ⟨c', by rw [e, Nat.mul_comm]⟩
    exact Nat.Coprime.dvd_of_dvd_mul_left cop.symm dv
  have e1 : b / Nat.gcd a b = d / Nat.gcd c d := Nat.dvd_antisymm (key hb hd h) (key hd hb h.symm)
  have ga : 0 < Nat.gcd a b := Nat.gcd_pos_of_pos_right _ hb
  have gc : 0 < Nat.gcd c d := Nat.gcd_pos_of_pos_right _ hd
  have hb1 : 0 < b / Nat.gcd a b := Nat.div_pos (Nat.le_of_dvd hb (Nat.gcd_dvd_right a b)) ga
  have e2 : a / Nat.gcd a b = c / Nat.gcd c d := by
    have q1 : a / Nat.gcd a b * Nat.gcd a b = a := Nat.div_mul_cancel (Nat.gcd_dvd_left a b)
    have q2 : b / Nat.gcd a b * Nat.gcd a b = b := Nat.div_mul_cancel (Nat.gcd_dvd_right a b)
    have q3 : c / Nat.gcd c d * Nat.gcd c d = c := Nat.div_mul_cancel (Nat.gcd_dvd_left c d)
    have q4 : d / Nat.gcd c d * Nat.gcd c d = d := Nat.div_mul_cancel (Nat.gcd_dvd_right c d)
    rw [← e1] at q4
    have h2 : (a / Nat.gcd a b * Nat.gcd a b) * (b / Nat.gcd a b * Nat.gcd c d) = (c / Nat.gcd c d * Nat.gcd c d) * (b / Nat.gcd a b * Nat.gcd a b) := by
      rw [q1, q2, q3, q4]; exact h
    have h3 : (b / Nat.gcd a b * (Nat.gcd a b * Nat.gcd c d)) * (a / Nat.gcd a b) = (b / Nat.gcd a b * (Nat.gcd a b * Nat.gcd c d)) * (c / Nat.gcd c d) := by
      calc (b / Nat.gcd a b * (Nat.gcd a b * Nat.gcd c d)) * (a / Nat.gcd a b) = (a / Nat.gcd a b * Nat.gcd a b) * (b / Nat.gcd a b * Nat.gcd c d) := by
            simp only [Nat.mul_assoc, Nat.mul_left_comm, Nat.mul_comm]
        _ = (c / Nat.gcd c d * Nat.gcd c d) * (b / Nat.gcd a b * Nat.gcd a b) := h2
        _ = (b / Nat.gcd a b * (Nat.gcd a b * Nat.gcd c d)) * (c / Nat.gcd c d) := by simp only [Nat.mul_assoc, Nat.mul_left_comm, Nat.mul_comm]
    exact Nat.eq_of_mul_eq_mul_left (Nat.mul_pos hb1 (Nat.mul_pos ga gc)) h3
  exact Prod.ext e2 e1
theorem fr_den {a b : Nat} (hb : 0 < b) : 0 < (fr a b).2 := Nat.div_pos (Nat.le_of_dvd hb (Nat.gcd_dvd_right a b)) (Nat.gcd_pos_of_pos_right _ hb)
theorem fr_cross {a b : Nat} : (fr a b).1 * b = a * (fr a b).2 := by
  show a / Nat.gcd a b * b = a * (b / Nat.gcd a b)
  obtain ⟨a', ha⟩ := Nat.gcd_dvd_left a b
  obtain ⟨b', hb⟩ := Nat.gcd_dvd_right a b
  rw [← Nat.mul_div_assoc _ (Nat.gcd_dvd_right a b), Nat.div_mul_right_comm (Nat.gcd_dvd_left a b)]
theorem fr_self {n : Nat} (h : 0 < n) : fr n n = (1, 1) := by
  unfold fr
  rw [Nat.gcd_self, Nat.div_self h]
theorem fr_zero {n : Nat} (h : 0 < n) : fr 0 n = (0, 1) := by
  unfold fr
  rw [Nat.gcd_zero_left, Nat.div_self h, Nat.zero_div]
theorem fr_num_pos {a b : Nat} (ha : 0 < a) : 0 < (fr a b).1 := Nat.div_pos (Nat.le_of_dvd ha (Nat.gcd_dvd_left a b)) (Nat.gcd_pos_of_pos_left _ ha)
theorem fr_le {a b : Nat} : (fr a b).1 ≤ a ∧ (fr a b).2 ≤ b := ⟨Nat.div_le_self _ _, Nat.div_le_self _ _⟩
/-- products and sums of fractions -/
theorem fr_mul {a b c d : Nat} (hb : 0 < b) (hd : 0 < d) : fr ((fr a b).1 * (fr c d).1) ((fr a b).2 * (fr c d).2) = fr (a * c) (b * d) := by
  refine fr_eq (Nat.mul_pos (fr_den hb) (fr_den hd)) (Nat.mul_pos hb hd) ?_
  calc (fr a b).1 * (fr c d).1 * (b * d) = ((fr a b).1 * b) * ((fr c d).1 * d) := by simp only [Nat.mul_assoc, Nat.mul_left_comm, Nat.mul_comm]
    _ = (a * (fr a b).2) * (c * (fr c d).2) := by rw [fr_cross, fr_cross]
    _ = a * c * ((fr a b).2 * (fr c d).2) := by simp only [Nat.mul_assoc, Nat.mul_left_comm, Nat.mul_comm]
theorem fr_add {a b n : Nat} (hn : 0 < n) : fr ((fr a n).1 * (fr b n).2 + (fr b n).1 * (fr a n).2) ((fr a n).2 * (fr b n).2) = fr (a + b) n := by
  refine fr_eq (Nat.mul_pos (fr_den hn) (fr_den hn)) hn ?_
  calc ((fr a n).1 * (fr b n).2 + (fr b n).1 * (fr a n).2) * n = ((fr a n).1 * n) * (fr b n).2 + ((fr b n).1 * n) * (fr a n).2 := by
        rw [Nat.add_mul]; simp only [Nat.mul_assoc, Nat.mul_left_comm, Nat.mul_comm]
    _ = (a * (fr a n).2) * (fr b n).2 + (b * (fr b n).2) * (fr a n).2 := by rw [fr_cross, fr_cross]
    _ = (a + b) * ((fr a n).2 * (fr b n).2) := by rw [Nat.add_mul]; simp only [Nat.mul_assoc, Nat.mul_left_comm, Nat.mul_comm]
theorem fr_fr {a b : Nat} (hb : 0 < b) : fr (fr a b).1 (fr a b).2 = fr a b := fr_eq (fr_den hb) hb fr_cross

/-! ### the leaves, in order, and the chances of their paths -/
section
variable {O : Type}
def num : Path → Nat
  | [] => 1
  | (k, ws) :: r => ws.getD k 0 * num r
def den : Path → Nat
  | [] => 1
  | (_, ws) :: r => ws.sum * den r
theorem num_snoc (k : Nat) (ws : List Nat) : ∀ p : Path, num (p ++ [(k, ws)]) = num p * ws.getD k 0
  | [] => by simp [num]
  | (j, vs) :: r => by
    show vs.getD j 0 * num (r ++ [(k, ws)]) = vs.getD j 0 * num r * ws.getD k 0
    rw [num_snoc k ws r, Nat.mul_assoc]
theorem den_snoc (k : Nat) (ws : List Nat) : ∀ p : Path, den (p ++ [(k, ws)]) = den p * ws.sum
  | [] => by simp [den]
  | (j, vs) :: r => by
    show vs.sum * den (r ++ [(k, ws)]) = vs.sum * den r * ws.sum
    rw [den_snoc k ws r, Nat.mul_assoc]

def lift (ws : List Nat) (k : Nat) (p : Path × O) : Path × O := ((k, ws) :: p.1, p.2)
def leaves : Tr O → List (Path × O)
  | .leaf o => [([], o)]
  | .node ws kid => (List.range' 0 ws.length).flatMap fun k => if pos ws k = true then (leaves (kid k)).map (lift ws k) else []
def block (ws : List Nat) (kid : Nat → Tr O) (k : Nat) : List (Path × O) := if pos ws k = true then (leaves (kid k)).map (lift ws k) else []
theorem leaves_node (ws : List Nat) (kid : Nat → Tr O) : leaves (.node ws kid) = (List.range' 0 ws.length).flatMap (block ws kid) := rfl

/-- what a leaf's path counts for, in lists of d places below N -/
def cst (N : Nat) : Nat → Path → Nat
  | d, [] => N ^ d
  | 0, _ :: _ => 0
  | d + 1, (k, ws) :: r => (N / ws.sum * ws.getD k 0) * cst N d r

theorem cst_nil (N d : Nat) : cst N d [] = N ^ d := by cases d <;> rfl
/-- a path of the tree, to a leaf -/
theorem leaf_path (N : Nat) (hN : 0 < N) : ∀ (t : Tr O) (d : Nat), t.Ok → t.Dv N → t.Dp d → ∀ q ∈ leaves t, cst N d q.1 * den q.1 = num q.1 * N ^ d ∧ 0 < num q.1 ∧ 0 < den q.1
  | .leaf o, d, _, _, _, q, hq => by
    have e : q = ([], o) := List.mem_singleton.mp hq
    subst e
    refine ⟨?_, Nat.one_pos, Nat.one_pos⟩
    show cst N d [] * 1 = 1 * N ^ d
    rw [cst_nil, Nat.mul_one, Nat.one_mul]
  | .node ws kid, 0, _, _, h, _, _ => h.elim
  | .node ws kid, d + 1, ok, dv, dp, q, hq => by
    obtain ⟨hs, hl, _, hk⟩ := ok
    obtain ⟨⟨c, hc⟩, hk2⟩ := dv
    obtain ⟨k, hk3, hq⟩ := List.mem_flatMap.mp hq
    by_cases hp : pos ws k = true
    · rw [if_pos hp] at hq
      obtain ⟨r, hr, e⟩ := List.mem_map.mp hq
      subst e
      obtain ⟨a, b, b'⟩ := leaf_path N hN (kid k) d (hk k hp) (hk2 k hp) (dp k hp) r hr
      have hw : 0 < ws.getD k 0 := of_decide_eq_true hp
      refine ⟨?_, Nat.mul_pos hw b, Nat.mul_pos hs b'⟩
      show (N / ws.sum * ws.getD k 0) * cst N d r.1 * (ws.sum * den r.1) = ws.getD k 0 * num r.1 * N ^ (d + 1)
      have e4 : N / ws.sum * ws.sum = N := Nat.div_mul_cancel ⟨c, hc⟩
      calc (N / ws.sum * ws.getD k 0) * cst N d r.1 * (ws.sum * den r.1) = (N / ws.sum * ws.sum) * (ws.getD k 0 * (cst N d r.1 * den r.1)) := by
            simp only [Nat.mul_assoc, Nat.mul_left_comm, Nat.mul_comm]
        _ = N * (ws.getD k 0 * (num r.1 * N ^ d)) := by rw [e4, a]
        _ = ws.getD k 0 * num r.1 * N ^ (d + 1) := by rw [Nat.pow_succ]; simp only [Nat.mul_assoc, Nat.mul_left_comm, Nat.mul_comm]
    · rw [if_neg hp] at hq
      simp at hq
theorem leaf_fr (N : Nat) (hN : 0 < N) {t : Tr O} {d : Nat} (ok : t.Ok) (dv : t.Dv N) (dp : t.Dp d) {q : Path × O} (hq : q ∈ leaves t) : fr (num q.1) (den q.1) = fr (cst N d q.1) (N ^ d) ∧ 0 < cst N d q.1 := by
  obtain ⟨a, b, c⟩ := leaf_path N hN t d ok dv dp q hq
  have hp : 0 < N ^ d := Nat.pow_pos hN
  refine ⟨fr_eq c hp a.symm, ?_⟩
  rcases Nat.eq_zero_or_pos (cst N d q.1) with z | z
  · rw [z, Nat.zero_mul] at a
    have := Nat.mul_pos b hp
    omega
  · exact z

variable [DecidableEq O]
/-- the sum over the leaves with an outcome -/
def bag (N d : Nat) (o : O) (L : List (Path × O)) : Nat := (L.map fun q => if q.2 = o then cst N d q.1 else 0).sum
def bagAll (N d : Nat) (L : List (Path × O)) : Nat := (L.map fun q => cst N d q.1).sum
omit [DecidableEq O] in
theorem sum_flatMap {α β : Type} (f : α → List β) (g : β → Nat) : ∀ l : List α, ((l.flatMap f).map g).sum = (l.map fun a => ((f a).map g).sum).sum
  | [] => rfl
  | a :: r => by rw [List.flatMap_cons, List.map_append, List.sum_append, sum_flatMap f g r, List.map_cons, List.sum_cons]
omit [DecidableEq O] in
theorem sum_mul {α : Type} (c : Nat) (g : α → Nat) : ∀ l : List α, (l.map fun a => c * g a).sum = c * (l.map g).sum
  | [] => rfl
  | a :: r => by rw [List.map_cons, List.sum_cons, sum_mul c g r, List.map_cons, List.sum_cons, Nat.mul_add]
omit [DecidableEq O] in
theorem range'_range (n : Nat) : List.range' 0 n = List.range n := List.range_eq_range'.symm
theorem bag_leaves (N : Nat) (o : O) : ∀ (t : Tr O) (d : Nat), t.Dp d → bag N d o (leaves t) = mass N t d o
  | .leaf o', d, _ => by
    show (if o' = o then cst N d [] else 0) + 0 = _
    rw [cst_nil]
    rfl
  | .node ws kid, 0, h => h.elim
  | .node ws kid, d + 1, dp => by
    show (((List.range' 0 ws.length).flatMap (block ws kid)).map fun q => if q.2 = o then cst N (d + 1) q.1 else 0).sum = (N / ws.sum) * Sm ws.length fun k => ws.getD k 0 * mass N (kid k) d o
    rw [sum_flatMap, range'_range]
    show Sm ws.length _ = _
    rw [← Sm_mul]
    refine Sm_congr fun k hk => ?_
    by_cases hp : pos ws k = true
    · have e : block ws kid k = (leaves (kid k)).map (lift ws k) := if_pos hp
      rw [e, List.map_map, ← bag_leaves N o (kid k) d (dp k hp)]
      unfold bag
      rw [← Nat.mul_assoc, ← sum_mul]
      congr 1
      apply List.map_congr_left
      intro q _
      show (if q.2 = o then (N / ws.sum * ws.getD k 0) * cst N d q.1 else 0) = _
      by_cases h : q.2 = o
      · rw [if_pos h, if_pos h]
      · rw [if_neg h, if_neg h, Nat.mul_zero]
    · have e : block ws kid k = [] := if_neg hp
      have z : ws.getD k 0 = 0 := by
        have := mt decide_eq_true hp
        omega
      rw [e, z]
      simp
omit [DecidableEq O] in
theorem bagAll_leaves (N : Nat) : ∀ (t : Tr O) (d : Nat), t.Ok → t.Dv N → t.Dp d → bagAll N d (leaves t) = N ^ d
  | .leaf o', d, _, _, _ => by
    show cst N d [] + 0 = _
    rw [cst_nil]
    rfl
  | .node ws kid, 0, _, _, h => h.elim
  | .node ws kid, d + 1, ok, dv, dp => by
    obtain ⟨hs, hl, _, hk⟩ := ok
    obtain ⟨⟨c, hc⟩, hk2⟩ := dv
    show (((List.range' 0 ws.length).flatMap (block ws kid)).map fun q => cst N (d + 1) q.1).sum = _
    rw [sum_flatMap, range'_range]
    have e0 : ((List.range ws.length).map fun k => ((block ws kid k).map fun q => cst N (d + 1) q.1).sum).sum = Sm ws.length fun k => (N / ws.sum * N ^ d) * (ws.getD k 0 * 1) := by
      show Sm ws.length _ = _
      refine Sm_congr fun k hk' => ?_
      by_cases hp : pos ws k = true
      · have e : block ws kid k = (leaves (kid k)).map (lift ws k) := if_pos hp
        rw [e, List.map_map]
        have q := bagAll_leaves N (kid k) d (hk k hp) (hk2 k hp) (dp k hp)
        unfold bagAll at q
        show ((leaves (kid k)).map fun q => (N / ws.sum * ws.getD k 0) * cst N d q.1).sum = _
        rw [sum_mul, q]
        simp only [Nat.mul_assoc, Nat.mul_left_comm, Nat.mul_comm, Nat.mul_one, Nat.one_mul]
      · have e : block ws kid k = [] := if_neg hp
        have z : ws.getD k 0 = 0 := by
          have := mt decide_eq_true hp
          omega
        rw [e, z]
        simp
    rw [e0, Sm_mul]
    have e1 := sum_nAt (fun _ => 1) ws
    rw [← e1, Sm_const, Nat.mul_one]
    have e4 : N / ws.sum * ws.sum = N := Nat.div_mul_cancel ⟨c, hc⟩
    calc N / ws.sum * N ^ d * ws.sum = (N / ws.sum * ws.sum) * N ^ d := by simp only [Nat.mul_assoc, Nat.mul_left_comm, Nat.mul_comm]
      _ = N ^ (d + 1) := by rw [e4, Nat.pow_succ, Nat.mul_comm]
end

/-! ### an explorer's runs -/
section
variable {O : Type}
/-- the first place from a on that is not zero, among n -/
def nxF (ws : List Nat) (a n : Nat) : Option Nat := (List.range' a n).find? (pos ws)
def first (ws : List Nat) : Nat := (nxF ws 0 ws.length).getD 0
def nxt (ws : List Nat) (k : Nat) : Option Nat := nxF ws (k + 1) (ws.length - (k + 1))
theorem nxF_some {ws : List Nat} : ∀ {n a m : Nat}, nxF ws a n = some m → a ≤ m ∧ m < a + n ∧ pos ws m = true
  | 0, a, m, h => by simp [nxF] at h
  | n + 1, a, m, h => by
    unfold nxF at h
    rw [List.range'_succ, List.find?_cons] at h
    cases e : pos ws a with
    | true =>
      rw [e] at h
      have q : a = m := Option.some.inj h
      subst q
      exact ⟨Nat.le_refl _, by omega, e⟩
    | false =>
      rw [e] at h
      obtain ⟨x, y, z⟩ := nxF_some (n := n) (a := a + 1) (m := m) h
      exact ⟨by omega, by omega, z⟩
theorem nxF_none {ws : List Nat} : ∀ {n a : Nat}, nxF ws a n = none → ∀ m, a ≤ m → m < a + n → pos ws m = false
  | 0, a, h, m, h1, h2 => by omega
  | n + 1, a, h, m, h1, h2 => by
    unfold nxF at h
    rw [List.range'_succ, List.find?_cons] at h
    cases e : pos ws a with
    | true =>
      rw [e] at h
      exact absurd h (by simp)
    | false =>
      rw [e] at h
      by_cases q : m = a
      · rw [q]; exact e
      · exact nxF_none (n := n) (a := a + 1) h m (by omega) (by omega)
theorem blocks_some (ws : List Nat) (kid : Nat → Tr O) : ∀ {n a m : Nat}, nxF ws a n = some m →
    (List.range' a n).flatMap (block ws kid) = (leaves (kid m)).map (lift ws m) ++ (List.range' (m + 1) (a + n - (m + 1))).flatMap (block ws kid)
  | 0, a, m, h => by simp [nxF] at h
  | n + 1, a, m, h => by
    unfold nxF at h
    rw [List.range'_succ, List.find?_cons] at h
    rw [List.range'_succ, List.flatMap_cons]
    cases e : pos ws a with
    | true =>
      rw [e] at h
      have q : a = m := Option.some.inj h
      subst q
      have e1 : block ws kid a = (leaves (kid a)).map (lift ws a) := if_pos e
      have e2 : a + (n + 1) - (a + 1) = n := by omega
      rw [e1, e2]
    | false =>
      rw [e] at h
      have e1 : block ws kid a = [] := if_neg (by rw [e]; exact Bool.false_ne_true)
      have e2 : a + (n + 1) - (m + 1) = a + 1 + n - (m + 1) := by omega
      rw [e1, List.nil_append, e2]
      exact blocks_some ws kid (n := n) (a := a + 1) h
theorem blocks_none (ws : List Nat) (kid : Nat → Tr O) : ∀ {n a : Nat}, nxF ws a n = none → (List.range' a n).flatMap (block ws kid) = []
  | 0, a, h => rfl
  | n + 1, a, h => by
    unfold nxF at h
    rw [List.range'_succ, List.find?_cons] at h
    rw [List.range'_succ, List.flatMap_cons]
    cases e : pos ws a with
    | true =>
      rw [e] at h
      exact absurd h (by simp)
    | false =>
      rw [e] at h
      have e1 : block ws kid a = [] := if_neg (by rw [e]; exact Bool.false_ne_true)
      rw [e1, List.nil_append]
      exact blocks_none ws kid (n := n) (a := a + 1) h

/-- the next list of picks -/
def adv : Path → Option Path
  | [] => none
  | (k, ws) :: r => match adv r with
    | some r' => some ((k, ws) :: r')
    | none => (nxt ws k).map fun m => [(m, ws)]
theorem adv_snoc (k : Nat) (ws : List Nat) : ∀ p : Path, adv (p ++ [(k, ws)]) = match nxt ws k with
    | some m => some (p ++ [(m, ws)])
    | none => adv p
  | [] => by
    show (match (none : Option Path) with
      | some r' => some ((k, ws) :: r')
      | none => (nxt ws k).map fun m => [(m, ws)]) = _
    cases nxt ws k <;> rfl
  | (j, vs) :: r => by
    show (match adv (r ++ [(k, ws)]) with
      | some r' => some ((j, vs) :: r')
      | none => (nxt vs j).map fun m => [(m, vs)]) = _
    rw [adv_snoc k ws r]
    cases nxt ws k <;> rfl
/-- a run from a list of picks: all its picks, the outcome -/
def run : Tr O → Path → Path × O
  | .leaf o, _ => ([], o)
  | .node ws kid, [] => lift ws (first ws) (run (kid (first ws)) [])
  | .node ws kid, (k, _) :: r => lift ws k (run (kid k) r)
/-- a list of picks of the tree -/
def Pre : Tr O → Path → Prop
  | _, [] => True
  | .leaf _, _ :: _ => False
  | .node ws kid, (k, vs) :: r => vs = ws ∧ k < ws.length ∧ pos ws k = true ∧ Pre (kid k) r
theorem pre_nil (t : Tr O) : Pre t [] := by cases t <;> trivial
theorem first_pos {ws : List Nat} (h : 0 < ws.sum) : nxF ws 0 ws.length = some (first ws) ∧ first ws < ws.length ∧ pos ws (first ws) = true := by
  cases e : nxF ws 0 ws.length with
  | some m =>
    obtain ⟨a, b, c⟩ := nxF_some e
    have q : first ws = m := by unfold first; rw [e]; rfl
    rw [q]
    exact ⟨rfl, by omega, c⟩
  | none =>
    have q := nxF_none e
    have z := nAt_pos (ws := ws) (p := 0) h
    have z2 := q (nAt ws 0) (Nat.zero_le _) (by omega)
    unfold pos at z2
    exact absurd z.1 (of_decide_eq_false z2)

/-- each run goes on from the one before; none goes on behind the last -/
def Chain (t : Tr O) : List (Path × O) → Prop
  | [] => True
  | [q] => adv q.1 = none
  | q :: q' :: L => (∃ p, adv q.1 = some p ∧ Pre t p ∧ run t p = q') ∧ Chain t (q' :: L)
theorem chain_block (ws : List Nat) (kid : Nat → Tr O) (k : Nat) (hk : k < ws.length) (hp : pos ws k = true) (R : List (Path × O))
    (hR : (nxt ws k = none ∧ R = []) ∨ ∃ m q R', nxt ws k = some m ∧ R = q :: R' ∧ run (.node ws kid) [(m, ws)] = q ∧ Pre (.node ws kid) [(m, ws)] ∧ Chain (.node ws kid) R) :
    ∀ L : List (Path × O), Chain (kid k) L → Chain (.node ws kid) (L.map (lift ws k) ++ R)
  | [], _ => by
    rcases hR with ⟨_, e⟩ | ⟨_, _, _, _, _, _, _, c⟩
    · rw [e]; trivial
    · exact c
  | [q], h => by
    have h : adv q.1 = none := h
    have e : adv (lift ws k q).1 = (nxt ws k).map fun m => [(m, ws)] := by
      show (match adv q.1 with
        | some r' => some ((k, ws) :: r')
        | none => (nxt ws k).map fun m => [(m, ws)]) = _
      rw [h]
    rcases hR with ⟨n, er⟩ | ⟨m, q', R', n, er, rn, pr, c⟩
    · rw [er, List.append_nil]
      show adv (lift ws k q).1 = none
      rw [e, n]
      rfl
    · rw [er]
      show (∃ p, adv (lift ws k q).1 = some p ∧ Pre (.node ws kid) p ∧ run (.node ws kid) p = q') ∧ Chain (.node ws kid) (q' :: R')
      refine ⟨⟨_, by rw [e, n]; rfl, pr, rn⟩, ?_⟩
      rw [← er]
      exact c
  | q :: q' :: L, h => by
    obtain ⟨⟨p, ha, hpr, hr⟩, hc⟩ := h
    show (∃ p, adv (lift ws k q).1 = some p ∧ Pre (.node ws kid) p ∧ run (.node ws kid) p = lift ws k q') ∧ Chain (.node ws kid) ((q' :: L).map (lift ws k) ++ R)
    refine ⟨⟨(k, ws) :: p, ?_, ⟨rfl, hk, hp, hpr⟩, ?_⟩, chain_block ws kid k hk hp R hR (q' :: L) hc⟩
    · show (match adv q.1 with
        | some r' => some ((k, ws) :: r')
        | none => (nxt ws k).map fun m => [(m, ws)]) = _
      rw [ha]
    · show lift ws k (run (kid k) p) = _
      rw [hr]
theorem leaves_run : ∀ (t : Tr O), t.Ok → (∃ L, leaves t = run t [] :: L) ∧ Chain t (leaves t)
  | .leaf o, _ => ⟨⟨[], rfl⟩, rfl⟩
  | .node ws kid, ok => by
    obtain ⟨hs, hl, _, hk⟩ := ok
    have ih : ∀ k, pos ws k = true → (∃ L, leaves (kid k) = run (kid k) [] :: L) ∧ Chain (kid k) (leaves (kid k)) := fun k hp => leaves_run (kid k) (hk k hp)
    have tail : ∀ n k : Nat, ws.length - (k + 1) = n → k < ws.length → pos ws k = true →
        Chain (.node ws kid) ((leaves (kid k)).map (lift ws k) ++ (List.range' (k + 1) (ws.length - (k + 1))).flatMap (block ws kid)) := by
      intro n
      induction n using Nat.strongRecOn with
      | ind n ihn =>
        intro k hn hk1 hp
        refine chain_block ws kid k hk1 hp _ ?_ _ (ih k hp).2
        cases e : nxt ws k with
        | none => exact .inl ⟨rfl, blocks_none ws kid e⟩
        | some m =>
          obtain ⟨a, b, c⟩ := nxF_some e
          have hm : m < ws.length := by omega
          have e2 := blocks_some ws kid e
          have e3 : k + 1 + (ws.length - (k + 1)) - (m + 1) = ws.length - (m + 1) := by omega
          rw [e3] at e2
          obtain ⟨L, hL⟩ := (ih m c).1
          refine .inr ⟨m, lift ws m (run (kid m) []), L.map (lift ws m) ++ (List.range' (m + 1) (ws.length - (m + 1))).flatMap (block ws kid), rfl, ?_, rfl, ⟨rfl, hm, c, pre_nil _⟩, ?_⟩
          · rw [e2, hL]
            rfl
          · rw [e2]
            exact ihn (ws.length - (m + 1)) (by omega) m rfl hm c
    obtain ⟨f1, f2, f3⟩ := first_pos hs
    have e := blocks_some ws kid f1
    rw [Nat.zero_add] at e
    obtain ⟨L, hL⟩ := (ih (first ws) f3).1
    constructor
    · refine ⟨?_, ?_⟩
      · exact L.map (lift ws (first ws)) ++ (List.range' (first ws + 1) (ws.length - (first ws + 1))).flatMap (block ws kid)
      · rw [leaves_node, e, hL]
        rfl
    · rw [leaves_node, e]
      exact tail _ (first ws) rfl f2 f3

/-- how many leaves there are at most -/
theorem leaves_few : ∀ (t : Tr O) (d : Nat), t.Ok → t.Dp d → (leaves t).length ≤ 3 ^ d
  | .leaf o, d, _, _ => Nat.one_le_pow _ _ (by decide)
  | .node ws kid, 0, _, h => h.elim
  | .node ws kid, d + 1, ok, dp => by
    obtain ⟨hs, hl, _, hk⟩ := ok
    rw [leaves_node, List.length_flatMap, range'_range]
    have h1 : ∀ k, (block ws kid k).length ≤ 3 ^ d := fun k => by
      by_cases hp : pos ws k = true
      · have e : block ws kid k = (leaves (kid k)).map (lift ws k) := if_pos hp
        rw [e, List.length_map]
        exact leaves_few (kid k) d (hk k hp) (dp k hp)
      · have e : block ws kid k = [] := if_neg hp
        rw [e]
        exact Nat.zero_le _
    have h2 : ∀ n, Sm n (fun k => (block ws kid k).length) ≤ n * 3 ^ d := by
      intro n
      induction n with
      | zero => simp [Sm_zero]
      | succ n ih =>
        rw [Sm_succ, Nat.succ_mul]
        have := h1 n
        omega
    have h3 := h2 ws.length
    unfold Sm at h3
    refine Nat.le_trans h3 ?_
    rw [Nat.pow_succ, Nat.mul_comm]
    exact Nat.mul_le_mul_left _ hl
theorem run_len : ∀ (t : Tr O) (d : Nat) (p : Path), t.Ok → t.Dp d → Pre t p → (run t p).1.length ≤ d
  | .leaf o, d, p, _, _, _ => Nat.zero_le _
  | .node ws kid, 0, p, _, h, _ => h.elim
  | .node ws kid, d + 1, [], ok, dp, _ => by
    obtain ⟨hs, hl, _, hk⟩ := ok
    have f := (first_pos hs).2.2
    have q := run_len (kid (first ws)) d [] (hk _ f) (dp _ f) (pre_nil _)
    show (run (kid (first ws)) []).1.length + 1 ≤ d + 1
    omega
  | .node ws kid, d + 1, (k, vs) :: r, ok, dp, pr => by
    obtain ⟨hs, hl, _, hk⟩ := ok
    obtain ⟨_, _, f, pr⟩ := pr
    have q := run_len (kid k) d r (hk _ f) (dp _ f) pr
    show (run (kid k) r).1.length + 1 ≤ d + 1
    omega
end

/-! ### the law: both ways the same -/
section
variable {O : Type} [DecidableEq O]
theorem bag_count (N : Nat) (hN : 0 < N) {t : Tr O} {d : Nat} (ok : t.Ok) (dv : t.Dv N) (dp : t.Dp d) (o : O) : bag N d o (leaves t) = ((lists N d).map (follow t)).count o := by
  rw [bag_leaves N o t d dp, count_follow N hN o t d ok dv dp]
theorem bag_zero {N d : Nat} {o : O} : ∀ {L : List (Path × O)}, (∀ q ∈ L, q.2 ≠ o) → bag N d o L = 0
  | [], _ => rfl
  | q :: L, h => by
    show (if q.2 = o then cst N d q.1 else 0) + bag N d o L = 0
    rw [if_neg (h q (List.mem_cons.mpr (.inl rfl))), bag_zero fun x hx => h x (List.mem_cons.mpr (.inr hx))]
theorem bag_pos {N d : Nat} {o : O} : ∀ {L : List (Path × O)}, (∀ q ∈ L, 0 < cst N d q.1) → o ∈ L.map (·.2) → 0 < bag N d o L
  | [], _, h => by simp at h
  | q :: L, hp, h => by
    show 0 < (if q.2 = o then cst N d q.1 else 0) + bag N d o L
    rw [List.map_cons] at h
    rcases List.mem_cons.mp h with e | e
    · rw [if_pos e.symm]
      have := hp q (List.mem_cons.mpr (.inl rfl))
      omega
    · have := bag_pos (fun x hx => hp x (List.mem_cons.mpr (.inr hx))) e
      omega
theorem bag_snoc (N d : Nat) (o : O) (L : List (Path × O)) (q : Path × O) : bag N d o (L ++ [q]) = bag N d o L + if q.2 = o then cst N d q.1 else 0 := by
  unfold bag
  rw [List.map_append, List.sum_append]
  simp
omit [DecidableEq O] in
theorem bagAll_snoc (N d : Nat) (L : List (Path × O)) (q : Path × O) : bagAll N d (L ++ [q]) = bagAll N d L + cst N d q.1 := by
  unfold bagAll
  rw [List.map_append, List.sum_append]
  simp
theorem same_outs (N : Nat) (hN : 0 < N) {t : Tr O} {d : Nat} (ok : t.Ok) (dv : t.Dv N) (dp : t.Dp d) (o : O) : o ∈ (leaves t).map (·.2) ↔ o ∈ (lists N d).map (follow t) := by
  have e := bag_count N hN ok dv dp o
  constructor
  · intro h
    have p := bag_pos (N := N) (d := d) (fun q hq => (leaf_fr N hN ok dv dp hq).2) h
    rw [e] at p
    exact List.count_pos_iff.mp p
  · intro h
    have p := List.count_pos_iff.mpr h
    rw [← e] at p
    rcases Decidable.em (o ∈ (leaves t).map (·.2)) with m | m
    · exact m
    · have z := bag_zero (N := N) (d := d) (o := o) (L := leaves t) fun q hq z => m (List.mem_map.mpr ⟨q, hq, z⟩)
      omega
end
/-- two lists in strict order with the same members are one -/
theorem order_one {α : Type} {lt : α → α → Prop} (asym : ∀ x y, lt x y → lt y x → False) : ∀ {l m : List α}, l.Pairwise lt → m.Pairwise lt → (∀ x, x ∈ l ↔ x ∈ m) → l = m
  | [], [], _, _, _ => rfl
  | [], y :: m, _, _, h => by
    have := (h y).mpr (List.mem_cons.mpr (.inl rfl))
    simp at this
  | x :: l, [], _, _, h => by
    have := (h x).mp (List.mem_cons.mpr (.inl rfl))
    simp at this
  | x :: l, y :: m, hl, hm, h => by
    obtain ⟨l1, l2⟩ := List.pairwise_cons.mp hl
    obtain ⟨m1, m2⟩ := List.pairwise_cons.mp hm
    have e : x = y := by
      rcases List.mem_cons.mp ((h x).mp (List.mem_cons.mpr (.inl rfl))) with q | q
      · exact q
      · rcases List.mem_cons.mp ((h y).mpr (List.mem_cons.mpr (.inl rfl))) with r | r
        · exact r.symm
        · exact (asym _ _ (l1 y r) (m1 x q)).elim
    subst e
    congr 1
    refine order_one asym l2 m2 fun z => ?_
    constructor
    · intro hz
      rcases List.mem_cons.mp ((h z).mp (List.mem_cons.mpr (.inr hz))) with q | q
      · subst q
        exact (asym _ _ (l1 z hz) (l1 z hz)).elim
      · exact q
    · intro hz
      rcases List.mem_cons.mp ((h z).mpr (List.mem_cons.mpr (.inr hz))) with q | q
      · subst q
        exact (asym _ _ (m1 z hz) (m1 z hz)).elim
      · exact q
end Fd
/-! sorted of tuples (int, text): of a list, of a dict's keys. -/
namespace FdS
open PySem PyProof.Rows Srt SrtO
def IsPS (h : Heap) (v : Value) (x : Int) (y : Str) : Prop := ∃ a o t u n, v = .ref a ∧ h.get? a = some o ∧ o.cls = .type "tuple" ∧ o.data = .seq #[.int x t, .str y u] n
theorem IsPS.keeps {h h' : Heap} {v : Value} {x : Int} {y : Str} (p : IsPS h v x y) (k : ∀ b o, h.get? b = some o → o.cls = .type "tuple" → h'.get? b = some o) : IsPS h' v x y := by
  obtain ⟨a, o, t, u, n, e, ho, hc, hd⟩ := p
  exact ⟨a, o, t, u, n, e, k _ _ ho hc, hc, hd⟩
/-- the order of the tuples (int, text) -/
def LtS (p q : Int × Str) : Prop := p.1 < q.1 ∨ (p.1 = q.1 ∧ p.2.cps.toList < q.2.cps.toList)
theorem str_eq {x y : Str} (h : x.cps.toList = y.cps.toList) : x = y := by
  have hc : x.cps = y.cps := Array.toList_inj.mp h
  cases x; cases y
  simp only [Str.mk.injEq]
  exact hc
theorem lst_asym {a b : List Nat} (h1 : a < b) (h2 : b < a) : False := List.lt_asymm h1 h2
theorem lst_total {a b : List Nat} (h1 : ¬ a < b) (h2 : ¬ b < a) : a = b := List.le_antisymm (List.not_lt.mp h2) (List.not_lt.mp h1)
instance (p q : Int × Str) : Decidable (LtS p q) := by unfold LtS; infer_instance
def lexS (p q : Int × Str) : Bool := decide (LtS p q)
theorem LtS.asym {p q : Int × Str} (h1 : LtS p q) (h2 : LtS q p) : False := by
  rcases h1 with a | ⟨a, b⟩ <;> rcases h2 with c | ⟨c, d⟩
  · omega
  · omega
  · omega
  · exact lst_asym b d
theorem LtS.tot {p q : Int × Str} (h1 : ¬ LtS p q) (h2 : ¬ LtS q p) : p = q := by
  have e : p.1 = q.1 := by
    rcases Int.lt_trichotomy p.1 q.1 with a | a | a
    · exact (h1 (.inl a)).elim
    · exact a
    · exact (h2 (.inl a)).elim
  have e2 : p.2.cps.toList = q.2.cps.toList := lst_total (fun a => h1 (.inr ⟨e, a⟩)) fun a => h2 (.inr ⟨e.symm, a⟩)
  exact Prod.ext e (str_eq e2)
theorem LtS.trans {p q r : Int × Str} (h1 : LtS p q) (h2 : LtS q r) : LtS p r := by
  rcases h1 with a | ⟨a, b⟩ <;> rcases h2 with c | ⟨c, d⟩
  · exact .inl (by omega)
  · exact .inl (by omega)
  · exact .inl (by omega)
  · exact .inr ⟨by omega, List.lt_trans b d⟩
theorem swo_S {α : Type} (k : α → Int × Str) : Swo fun v u => lexS (k v) (k u) := by
  refine ⟨fun x y h => ?_, fun x y z h1 h2 => ?_⟩
  · exact decide_eq_false fun q => LtS.asym (of_decide_eq_true h) q
  · have a : ¬ LtS (k y) (k x) := of_decide_eq_false h1
    have b : ¬ LtS (k z) (k y) := of_decide_eq_false h2
    refine decide_eq_false fun q => ?_
    by_cases c : LtS (k x) (k y)
    · exact b (LtS.trans q c)
    · have e := LtS.tot c a
      rw [← e] at b
      exact b q
section
variable {prog : Program} {w : World} {A : Around} {E : Value → Shared → Prop} {s : Shared}
theorem ps_cmp {vs : List Value} {k : Value → Int × Str} (hp : ∀ v ∈ vs, IsPS s.heap v (k v).1 (k v).2) : Cmp prog w A s (tuples' true) (fun p => p.1 ∈ vs) (lt2 fun v u => lexS (k v) (k u)) := by
  intro p q hm hm'
  have h1 := hp _ hm
  have h2 := hp _ hm'
  show wpAny (model prog w) A (keyLt' (tuples' true) p.1 q.1) (fun r s' => s' = s ∧ r = lexS (k p.1) (k q.1)) (fun _ _ => False) s
  generalize k p.1 = kx at h1 ⊢
  generalize k q.1 = ky at h2 ⊢
  obtain ⟨x, y⟩ := kx
  obtain ⟨x', y'⟩ := ky
  obtain ⟨a, o, t, u, n, e, ho, hc, hd⟩ := h1
  obtain ⟨a', o', t', u', n', e', ho', hc', hd'⟩ := h2
  rw [e, e']
  refine PySem.W.kat_lt ho hd ho' hd' ?_
  show PySem.W.KatLex prog w A true (decide (2 < 2)) _ [(.int x t, .int x' t'), (.str y u, .str y' u')] 0 s
  refine PySem.W.kat_cons (SeqAt.EqAt.int_int x t x' t' prog w _ _ ?_)
  refine PySem.W.kat_go (fun e1 => ?_) (fun e1 => ?_)
  · have ex : x = x' := by simpa using e1
    refine PySem.W.kat_yes (PySem.W.kat_cons (wpAny_eqBool_str ?_))
    refine PySem.W.kat_go (fun e2 => ?_) (fun e2 => ?_)
    · have ey : y = y' := of_decide_eq_true e2
      have e3 : lexS (x, y) (x', y') = false := by
        rw [ex, ey]
        exact decide_eq_false fun q => LtS.asym q q
      exact PySem.W.kat_yes (PySem.W.kat_nil ⟨rfl, e3.symm⟩)
    · have e3 : lexS (x, y) (x', y') = decide (y.cps.toList < y'.cps.toList) := by
        unfold lexS LtS
        refine decide_eq_decide.mpr ⟨fun z => ?_, fun z => .inr ⟨ex, z⟩⟩
        rcases z with z | z
        · have z' : x < x' := z
          omega
        · exact z.2
      exact PySem.W.kat_no (oneLt_any_str ⟨rfl, e3.symm⟩)
  · have ex : ¬ x = x' := by simpa using e1
    have e3 : lexS (x, y) (x', y') = decide (x < x') := by
      unfold lexS LtS
      refine decide_eq_decide.mpr ⟨fun z => ?_, fun z => .inl z⟩
      rcases z with z | z
      · exact z
      · exact (ex z.1).elim
    exact PySem.W.kat_no (oneLt_int ⟨rfl, e3.symm⟩)
theorem ps_firsts {h : Heap} : ∀ {vs : List Value}, (∀ v ∈ vs, ∃ x y, IsPS h v x y) → ∃ fs : List Value, PySem.W.KatTups h vs fs ∧ fs.length = vs.length ∧ ∀ f ∈ fs, ∃ x t, f = Value.int x t
  | [], _ => ⟨[], PySem.W.KatTups.nil, rfl, fun _ hm => by simp at hm⟩
  | v :: vs, hp => by
    obtain ⟨fs, h1, h2, h3⟩ := ps_firsts (vs := vs) fun v' hm => hp v' (List.mem_cons_of_mem _ hm)
    obtain ⟨x, y, a, o, t, u, n, e, ho, hc, hd⟩ := hp v (List.mem_cons_self ..)
    subst e
    refine ⟨.int x t :: fs, PySem.W.KatTups.cons ho hc hd rfl h1, by rw [List.length_cons, List.length_cons, h2], fun f hm => ?_⟩
    rcases List.mem_cons.mp hm with rfl | hm
    · exact ⟨x, t, rfl⟩
    · exact h3 f hm
theorem ps_sortableO {a : Addr} {vs : List Value} {k : Value → Int × Str} (h0 : 0 < vs.length) (hp : ∀ v ∈ vs, IsPS s.heap v (k v).1 (k v).2) (ha : ∀ o, s.heap.get? a = some o → o.cls ≠ .type "tuple") : SortableO prog w A s a vs fun v u => lexS (k v) (k u) := by
  intro h' keep
  have hp' : ∀ v ∈ vs, IsPS h' v (k v).1 (k v).2 := fun v hm => (hp v hm).keeps fun b o e c => keep b o (fun z => by subst z; exact ha o e c) e
  obtain ⟨fs, h1, h2, h3⟩ := ps_firsts fun v hm => ⟨_, _, hp' v hm⟩
  refine ⟨tuples' true, fun Q E hq => ?_, ps_cmp hp'⟩
  refine PySem.W.kat_kind (T := .type "int") h1 (by omega) (fun f hm => ?_) (by rfl) ?_
  · obtain ⟨x, t, rfl⟩ := h3 f hm
    exact PySem.W.Looks.now
  · have e : (Value.type "int" != Value.type "tuple") = true := by first | decide +kernel | rfl | decide
    rw [e]
    exact hq
theorem sorted_PS {l : Addr} {vs : List Value} {k : Value → Int × Str} {Q : Value → Shared → Prop} (hl : s.heap.IsList l vs.toArray) (hz : vs.length ≤ sizeLine) (hp : ∀ v ∈ vs, IsPS s.heap v (k v).1 (k v).2)
    (h : ∀ (h' : Heap) (d : Addr) (out : List Value), Srtd (fun v u => lexS (k v) (k u)) out → Stb (fun v u => lexS (k v) (k u)) out vs → (∀ b o, s.heap.get? b = some o → h'.get? b = some o) → s.heap.objs.size ≤ d → (∃ n, h'.get? d = some (seqObj "list" out.toArray n)) → Q (.ref d) { s with heap := h' }) :
    wpAny (model prog w) A (call (.builtin "sorted") [.ref l]) Q E s := by
  refine sorted_ord (swo_S k) hl hz (fun h2 h₁ a ha kk => ?_) fun out hs hb => ?_
  · refine ps_sortableO (s := { s with heap := h₁ }) (by omega) (fun v hm => (hp v hm).keeps fun b o e _ => (kk b o e).2) fun o e => ?_
    have e' : some o = some (seqObj "list" vs.toArray 0) := e.symm.trans ha
    cases e'
    intro c
    exact absurd (Value.type.inj c) (by decide)
  · exact h _ _ out hs hb (fun b o e => sortedAll_old e) (Nat.le_succ _) (sortedAll_at s.heap vs out.toArray)
end
end FdS

namespace FdS
open PySem PySem.Spec PyProof.Rows L2
/-- a tuple (int, text) of the heap -/
def kOf (H : Hp) : V → Int × Str
  | .ref b => match H b with
    | some (.tup [.int n, .str x]) => (n, x)
    | _ => (0, ⟨#[]⟩)
  | _ => (0, ⟨#[]⟩)
theorem kOf_at {H : Hp} {b : Addr} {n : Int} {x : Str} (h : H b = some (.tup [.int n, .str x])) : kOf H (.ref b) = (n, x) := by
  simp only [kOf, h]
section
variable {X : Cx} {pins : List (Addr × Obj)} {σ : L2.St} {H : Hp} {s : Shared}
theorem ps_at (I : Inv X pins σ H s) {t : Addr} {n : Int} {x : Str} (ht : H t = some (.tup [.int n, .str x])) : IsPS s.heap (.ref t) n x := by
  obtain ⟨_, its2, r2, o, ho, hc, m, hd⟩ := I.hok _ _ ht
  obtain ⟨u1, u2, rfl, ri, rj⟩ := vals2 r2
  obtain ⟨t1, rfl⟩ := ri
  obtain ⟨t2, rfl⟩ := rj
  exact ⟨t, o, t1, t2, m, rfl, ho, hc, hd⟩
/-- sorted(xs), xs a list of tuples (int, text) -/
def rSortTS (K : PySem.W.Frag) : List V → Hp → VK → Prop := fun vs H Q => ∃ (a : Addr) (xs : List V), vs = [V.ref a] ∧ SqL K H a xs ∧ (∀ x ∈ xs, ∃ t n z, x = V.ref t ∧ H t = some (.tup [.int n, .str z])) ∧
  ∀ ys p, SrtO.Srtd (fun x y => lexS (kOf H x) (kOf H y)) ys → ys.Perm xs → H p = none → Q (.ref p) (upd H p (.lst ys))
theorem cr_sortTS : CallR X (.builtin "sorted") (rSortTS X.K) := by
  intro pins s σ H vs us Q I r h
  obtain ⟨a, xs, rfl, hs, hx, q⟩ := h
  obtain ⟨its, rv, hl, hz⟩ := I.list hs
  obtain ⟨u, rfl, ru⟩ := vals1 r
  obtain rfl : u = Value.ref a := ru
  obtain ⟨e1, e2⟩ := refs_back rv fun x m => by
    obtain ⟨t, _, _, e, _⟩ := hx x m
    exact ⟨t, e⟩
  refine sorted_PS (k := fun u => kOf H (backV u)) hl.isList (by rw [← rv.length]; exact hz) (fun v hv => ?_) fun h' d out h1 h2 kp hd hn => ?_
  · obtain ⟨t, rfl⟩ := e2 v hv
    have hm : V.ref t ∈ xs := by rw [e1]; exact List.mem_map.mpr ⟨_, hv, rfl⟩
    obtain ⟨t', n, z, e, ht⟩ := hx _ hm
    cases e
    have ek : kOf H (backV (Value.ref t)) = (n, z) := kOf_at ht
    rw [ek]
    exact ps_at I ht
  · have h3 : ∀ u ∈ out, ∃ a, u = Value.ref a := fun u hu => e2 u (h2.perm.mem_iff.mp hu)
    obtain ⟨n, hn⟩ := hn
    have hb : (out.map backV).Perm xs := by
      rw [e1]
      exact h2.perm.map backV
    refine ⟨.ref d, upd H d (.lst (out.map backV)), I.laid (t' := s.toks) kp hd ⟨?_, out, n, vals_back h3, hn⟩, rfl, q _ d (SrtO.srtd_map (lt := fun x y => lexS (kOf H x) (kOf H y)) h1) hb (I.hok.fresh hd)⟩
    rw [hb.length_eq]
    exact hz
/-- sorted(d), d a dict whose keys are tuples (int, text) -/
def rSortDTS : List V → Hp → VK → Prop := fun vs H Q => ∃ (d : Addr) (kvs : List (List Key × V)), vs = [V.ref d] ∧ Rd H d (.dT kvs) ∧ (∀ p ∈ kvs, ∃ n z, p.1 = [Sum.inl n, Sum.inr z]) ∧ 
  ∀ bs, IsKeys H kvs bs → ∀ ys p, SrtO.Srtd (fun x y => lexS (kOf H x) (kOf H y)) ys → ys.Perm (bs.map V.ref) → H p = none → Q (.ref p) (upd H p (.lst ys))
theorem isKeys_len {H : Hp} {kvs : List (List Key × V)} {bs : List Addr} (h : IsKeys H kvs bs) : kvs.length = bs.length := Paired.length h
theorem isKeys_mem {H : Hp} : ∀ {kvs : List (List Key × V)} {bs : List Addr}, IsKeys H kvs bs → ∀ b ∈ bs, ∃ p ∈ kvs, H b = some (.tup (p.1.map kV))
  | _, _, .nil, b, hb => by simp at hb
  | _, _, .cons (a := p) (b := c) (l₁ := r) h t, b, hb => by
    rcases List.mem_cons.mp hb with e | hb
    · subst e
      exact ⟨p, List.mem_cons_self, h⟩
    · obtain ⟨p', hp', e⟩ := isKeys_mem t b hb
      exact ⟨p', List.mem_cons_of_mem _ hp', e⟩
theorem cr_sortDTS (hc : X.calm = true) : CallR X (.builtin "sorted") rSortDTS := by
  intro pins s σ H xs us Q I r h
  obtain ⟨d, kvs, rfl, hd, hk2, q⟩ := h
  obtain ⟨u, rfl, rx⟩ := vals1 r
  cases rx
  obtain ⟨z, hs, ks, pr, o, es, ep, ho, hx, hdt, he, hn⟩ := (show ObjOk X.prog X.w H s.heap d (.dT kvs) from hd.ok I.hok)
  have l1 : es.size = ks.length := size_of_entries he
  have l2 : kvs.length = ks.length := Paired.length pr
  have h16 : es.size ≤ sizeLine := by omega
  have hkeys : IsKeys H kvs (ks.map fun x => x.2.1) := isKeys_of pr
  refine Calls.call_function_entry PyProof.Rows.kind_sorted PyProof.Rows.plain_sorted PyProof.Rows.entry_sorted (PyProof.Rows.args_sorted1 _) ?_
  unfold Builtin.«sorted»
  refine wpAny_bind (m := checkCount "sorted" 1 1 _) (wpAny_pure ?_)
  refine wpAny_bind (PySem.W.kdu_collect (A := X.A.in1) (kdl_raw hs hx hdt) (I.ok.hd hc) ho h16 fun h' tk acc hk it => ?_)
  have ea : acc.toList = ks.map fun x => Value.ref x.2.1 := by
    have hl : acc.toList.length = ks.length := by rw [Array.length_toList, it.1]; exact l1
    apply List.ext_getElem?
    intro j
    rw [List.getElem?_map]
    cases hj : acc.toList[j]? with
    | none =>
      have h1 := List.getElem?_eq_none_iff.mp hj
      rw [List.getElem?_eq_none (by omega)]
      all_goals rfl
    | some v =>
      obtain ⟨en, hen, hv⟩ := it.2 j v (by rw [← Array.getElem?_toList]; exact hj)
      have qe := entry_at he j
      rw [hen] at qe
      cases hb : ks[j]? with
      | none =>
        rw [hb] at qe
        exact nomatch (show some en = none from qe)
      | some b =>
        rw [hb] at qe
        have e2 : en = entryOfKey (tupleKind (mixKind X.prog X.w)) b := Option.some.inj qe
        rw [hv, e2]
        all_goals rfl
  have eb : acc.toList = (ks.map fun x => x.2.1).map Value.ref := by rw [ea, List.map_map]; all_goals rfl
  have I1 : Inv X pins σ H { s with heap := h', toks := tk } := I.kept hk
  have hal : acc.toList.length ≤ sizeLine := by rw [ea, List.length_map]; omega
  refine wpAny_bind (wpAny_newList ?_ hal)
  have hoL : (h'.push (seqObj "list" acc.toList.toArray 0)).get? h'.objs.size = some (seqObj "list" acc.toList.toArray 0) := Heap.get?_push_size _ rfl
  show wpAny _ _ _ _ _ { s with heap := h'.push (seqObj "list" acc.toList.toArray 0), toks := tk }
  have hps : ∀ v ∈ acc.toList, IsPS (h'.push (seqObj "list" acc.toList.toArray 0)) v (kOf H (backV v)).1 (kOf H (backV v)).2 := fun v hv => by
    rw [eb] at hv
    obtain ⟨b, hb, rfl⟩ := List.mem_map.mp hv
    obtain ⟨p, hp, e⟩ := isKeys_mem hkeys b hb
    obtain ⟨n, zz, e2⟩ := hk2 p hp
    rw [e2] at e
    have ek : kOf H (backV (Value.ref b)) = (n, zz) := kOf_at e
    rw [ek]
    exact IsPS.keeps (h := h') (ps_at I1 e) fun c oc hc _ => Heap.get?_push_of_some _ hc
  refine wpAny_bind (wpAny_holding (wpAny_call_entry PyProof.Rows.slot_list_sort ⟨_, hoL, rfl⟩ PyProof.Rows.entry_list_sort
    (SrtO.list_sort_ord (s := { s with heap := h'.push (seqObj "list" acc.toList.toArray 0), toks := tk }) (swo_S fun u => kOf H (backV u)) hoL hal
      (fun h2 => ps_sortableO (s := { s with heap := h'.push (seqObj "list" acc.toList.toArray 0), toks := tk }) (by omega) hps fun ob e => ?_) fun out h1 h2 => ⟨_, rfl, ?_⟩)
    (PyProof.Rows.args_list_sort _)))
  · have e' : some ob = some (seqObj "list" acc.toList.toArray 0) := e.symm.trans hoL
    cases e'
    intro c
    exact absurd (Value.type.inj c) (by decide)
  · have h3 : ∀ u ∈ out, ∃ a, u = Value.ref a := fun u hu => by
      have hm := h2.perm.mem_iff.mp hu
      rw [eb] at hm
      obtain ⟨b, _, e⟩ := List.mem_map.mp hm
      exact ⟨b, e.symm⟩
    have ebk : acc.toList.map backV = (ks.map fun x => x.2.1).map V.ref := by
      rw [eb, List.map_map]
      all_goals rfl
    have hb : (out.map backV).Perm ((ks.map fun x => x.2.1).map V.ref) := by
      rw [← ebk]
      exact h2.perm.map backV
    obtain ⟨e', he'⟩ := PyProof.Rows.sortedHeap_at (vs := acc.toList) (out := out.toArray) hoL
    have hlen : (out.map backV).length ≤ sizeLine := by
      rw [hb.length_eq, List.length_map, List.length_map]
      omega
    refine wpAny_pure ⟨_, rfl, .ref h'.objs.size, upd H h'.objs.size (.lst (out.map backV)), I1.laid (t' := tk) (fun b u e => ?_) (Nat.le_refl _)
      (show ObjOk X.prog X.w _ _ _ (.lst (out.map backV)) from ⟨hlen, out, e', vals_back h3, he'⟩), rfl,
      q _ hkeys _ _ (SrtO.srtd_map (lt := fun x y => lexS (kOf H x) (kOf H y)) h1) hb (I1.hok.fresh (Nat.le_refl _))⟩
    have hb : b < h'.objs.size := Heap.lt_size e
    rw [PyProof.Rows.sortedHeap_old (Nat.ne_of_lt hb) (by rw [size_push']; exact Nat.lt_succ_of_lt hb)]
    exact Heap.get?_push_of_some _ e
end
end FdS
/-! The text by places; what stands in the heap: fractions, outcomes, dicts by outcomes, trees. -/
namespace Fd
open PySem PySem.Spec PyProof.Rows L2
/-! ### the text by places -/
def top (i : Nat) : Stmt := PySem.Challenge.pw_samphire_k13_whole_fair_dice.main.body.getD i (.Pass ⟨0, 0, 0, 0⟩)
abbrev sLowest : Stmt := top 11
abbrev sPlus : Stmt := top 12
abbrev sTimes : Stmt := top 13
abbrev sLess : Stmt := top 14
abbrev sSumOf : Stmt := top 15
abbrev sAre : Stmt := top 17
abbrev sLawFrom : Stmt := top 18
abbrev sXInit : Stmt := inClass (top 21) 0
abbrev sXAdvance : Stmt := inClass (top 21) 1
abbrev sXBegin : Stmt := inClass (top 21) 2
abbrev sXPick : Stmt := inClass (top 21) 3
abbrev sXEnd : Stmt := inClass (top 21) 4
abbrev sXGathered : Stmt := inClass (top 21) 6
abbrev sNumAt : Stmt := top 23
abbrev sTInit : Stmt := inClass (top 24) 0
abbrev sTPick : Stmt := inClass (top 24) 1
abbrev sDeck : Stmt := top 26
abbrev sDraw : Stmt := top 27
abbrev sLow : Stmt := top 28
abbrev sWeights : Stmt := top 32
abbrev sTree : Stmt := top 33
abbrev sDeed : Stmt := top 34
abbrev sDepth : Stmt := top 37
abbrev sCommon : Stmt := top 38
abbrev sShared : Stmt := top 39
abbrev sLists : Stmt := top 40
abbrev sPower : Stmt := top 41
abbrev sLaw : Stmt := top 42

/-! ### calls by name -/
/-- the module's name x stands for a def that keeps the promise sp -/
def Has (P : Program) (w : World) (K : PySem.W.Frag) (mg : Str → Option Value) (base : Heap) (x : Str) (k : Nat) (ps : List Str) (sp : Sp) : Prop :=
  ∃ (f : Addr) (fd : FuncData), mg x = some (.ref f) ∧ FnOk P w K mg base CX0 k f fd ps sp ∧ Binds K fd ps [] ∧ PySem.W.keepIn K (.ref f) = true
/-- the class at C has the method m, that keeps the promise sp -/
def HasM (P : Program) (w : World) (K : PySem.W.Frag) (mg : Str → Option Value) (base : Heap) (C : Addr) (m : Str) (k : Nat) (ps : List Str) (sp : Sp) : Prop :=
  ∃ (f : Addr) (fd : FuncData), Meth K C m f ∧ FnOk P w K mg base CX0 k f fd ps sp ∧ Binds K fd ps []

/-! ### heaps -/
/-- all that was tracked is as it was, but what stood at S; tuples stand for ever -/
structure Keep (S : List Addr) (H H' : Hp) : Prop where
  at_ : ∀ b o, b ∉ S → H b = some o → H' b = some o
  tup : ∀ b xs, H b = some (.tup xs) → H' b = some (.tup xs)
  frz : ∀ b o u, H b = some (.frz o u) → H' b = some (.frz o u)
theorem Keep.refl (S : List Addr) (H : Hp) : Keep S H H := ⟨fun _ _ _ h => h, fun _ _ h => h, fun _ _ _ h => h⟩
theorem Keep.trans {S : List Addr} {H H1 H2 : Hp} (a : Keep S H H1) (b : Keep S H1 H2) : Keep S H H2 :=
  ⟨fun c o n h => b.at_ c o n (a.at_ c o n h), fun c xs h => b.tup c xs (a.tup c xs h), fun c o u h => b.frz c o u (a.frz c o u h)⟩
theorem Keep.mono {S S' : List Addr} {H H' : Hp} (a : Keep S H H') (h : ∀ b ∈ S, b ∈ S') : Keep S' H H' := ⟨fun b o n e => a.at_ b o (fun m => n (h b m)) e, a.tup, a.frz⟩
theorem Keep.of_same {S : List Addr} {H H' : Hp} (a : Same H H') : Keep S H H' := ⟨fun b o _ e => a b o e, fun b xs e => a b _ e, fun b o u e => a b _ e⟩
theorem Keep.same {H H' : Hp} (a : Keep [] H H') : Same H H' := fun b o e => a.at_ b o (by simp) e
/-- what is not tracked ahead doesn't count -/
theorem Keep.less {S S' : List Addr} {H H' : Hp} (a : Keep S H H') (h : ∀ b ∈ S, b ∈ S' ∨ H b = none) : Keep S' H H' :=
  ⟨fun b o n e => a.at_ b o (fun m => by
    rcases h b m with q | q
    · exact n q
    · rw [q] at e; cases e) e, a.tup, a.frz⟩
theorem Keep.new {S : List Addr} {H : Hp} {p : Addr} (hp : H p = none) (o : HO) : Keep S H (upd H p o) :=
  Keep.of_same fun b u e => by rw [upd_ne (ne_of_none e hp)]; exact e
/-- an object that may change -/
def Mu : HO → Prop
  | .tup _ => False
  | .frz _ _ => False
  | _ => True
theorem Keep.put {S : List Addr} {H : Hp} {p : Addr} {u : HO} (hm : p ∈ S) (hp : H p = some u) (mu : Mu u) (o : HO) : Keep S H (upd H p o) := by
  have h : ∀ b v, H b = some v → ¬ Mu v → b ≠ p := fun b v e nm z => by
    subst z
    rw [hp] at e
    cases e
    exact nm mu
  exact ⟨fun b v n e => by rw [upd_ne fun z => n (by rw [z]; exact hm)]; exact e, fun b xs e => by rw [upd_ne (h b _ e fun z => z)]; exact e, fun b o' v e => by rw [upd_ne (h b _ e fun z => z)]; exact e⟩
theorem Keep.sqT {K : PySem.W.Frag} {S : List Addr} {H H' : Hp} {a : Addr} {xs : List V} (k : Keep S H H') (h : SqT K H a xs) : SqT K H' a xs := by
  rcases h with (h | ⟨o, h⟩) | h
  · exact .inl (.inl (k.tup _ _ h))
  · exact .inl (.inr ⟨o, k.frz _ _ _ h⟩)
  · exact .inr h
theorem Keep.sqL {K : PySem.W.Frag} {S : List Addr} {H H' : Hp} {a : Addr} {xs : List V} (k : Keep S H H') (n : a ∉ S) (h : SqL K H a xs) : SqL K H' a xs := by
  rcases h with (h | ⟨o, h⟩) | h
  · exact .inl (.inl (k.at_ _ _ n h))
  · exact .inl (.inr ⟨o, k.frz _ _ _ h⟩)
  · exact .inr h
theorem Same.sqT {K : PySem.W.Frag} {H H' : Hp} {a : Addr} {xs : List V} (k : Same H H') (h : SqT K H a xs) : SqT K H' a xs := (Keep.of_same (S := []) k).sqT h
theorem Same.new {H : Hp} {p : Addr} (hp : H p = none) (o : HO) : Same H (upd H p o) := (Keep.new (S := []) hp o).same
theorem ne_kind {H : Hp} {a b : Addr} {u v : HO} (h : H a = some u) (h' : H b = some v) (d : u ≠ v) : a ≠ b := ne_of h h' d

/-! ### fractions -/
def frL (p : Nat × Nat) : List V := [.int (p.1 : Nat), .int (p.2 : Nat)]
/-- v is a fraction of the heap -/
def IsFr (K : PySem.W.Frag) (H : Hp) (v : V) (p : Nat × Nat) : Prop := ∃ a, v = .ref a ∧ SqT K H a (frL p)
theorem IsFr.keep {K : PySem.W.Frag} {S : List Addr} {H H' : Hp} {v : V} {p : Nat × Nat} (k : Keep S H H') (h : IsFr K H v p) : IsFr K H' v p :=
  let ⟨a, e, q⟩ := h; ⟨a, e, k.sqT q⟩
theorem IsFr.same {K : PySem.W.Frag} {H H' : Hp} {v : V} {p : Nat × Nat} (k : Same H H') (h : IsFr K H v p) : IsFr K H' v p :=
  let ⟨a, e, q⟩ := h; ⟨a, e, Same.sqT k q⟩
theorem isFr_new {K : PySem.W.Frag} {H : Hp} {a : Addr} {p : Nat × Nat} (h : H a = some (.tup (frL p))) : IsFr K H (.ref a) p := ⟨a, rfl, SqT.of h⟩

/-! ### outcomes -/
inductive Out where
  | i (n : Int) | s (x : Str) | t (n : Int) (x : Str)
  deriving DecidableEq
def Out.form : Out → Nat
  | .i _ => 0
  | .s _ => 1
  | .t _ _ => 2
/-- the value v stands for the outcome -/
def OutV (H : Hp) : Out → V → Prop
  | .i n, v => v = .int n
  | .s x, v => v = .str x
  | .t n x, v => ∃ a, v = .ref a ∧ H a = some (.tup [.int n, .str x])
theorem OutV.keep {S : List Addr} {H H' : Hp} (k : Keep S H H') : ∀ {o : Out} {v : V}, OutV H o v → OutV H' o v
  | .i _, _, h => h
  | .s _, _, h => h
  | .t _ _, _, ⟨a, e, h⟩ => ⟨a, e, k.tup _ _ h⟩
theorem OutV.same {H H' : Hp} (k : Same H H') {o : Out} {v : V} (h : OutV H o v) : OutV H' o v := OutV.keep (Keep.of_same (S := []) k) h
/-- the strict order of outcomes of one form -/
def Out.lt : Out → Out → Prop
  | .i a, .i b => a < b
  | .s x, .s y => x.cps.toList < y.cps.toList
  | .t a x, .t b y => FdS.LtS (a, x) (b, y)
  | _, _ => False
theorem Out.lt_asym : ∀ x y : Out, x.lt y → y.lt x → False
  | .i a, .i b, h1, h2 => by
    have h1 : a < b := h1
    have h2 : b < a := h2
    omega
  | .s x, .s y, h1, h2 => FdS.lst_asym h1 h2
  | .t a x, .t b y, h1, h2 => FdS.LtS.asym h1 h2
  | .i _, .s _, h, _ => h.elim
  | .i _, .t _ _, h, _ => h.elim
  | .s _, .i _, h, _ => h.elim
  | .s _, .t _ _, h, _ => h.elim
  | .t _ _, .i _, h, _ => h.elim
  | .t _ _, .s _, h, _ => h.elim
theorem Out.lt_tot : ∀ x y : Out, x.form = y.form → ¬ x.lt y → ¬ y.lt x → x = y
  | .i a, .i b, _, h1, h2 => by
    have h1 : ¬ a < b := h1
    have h2 : ¬ b < a := h2
    have e : a = b := by omega
    rw [e]
  | .s x, .s y, _, h1, h2 => by rw [FdS.str_eq (FdS.lst_total h1 h2)]
  | .t a x, .t b y, _, h1, h2 => by
    have e := FdS.LtS.tot h1 h2
    cases e
    rfl
  | .i _, .s _, h, _, _ => by cases h
  | .i _, .t _ _, h, _, _ => by cases h
  | .s _, .i _, h, _, _ => by cases h
  | .s _, .t _ _, h, _, _ => by cases h
  | .t _ _, .i _, h, _, _ => by cases h
  | .t _ _, .s _, h, _, _ => by cases h
/-- lists of values that stand for outcomes -/
abbrev OutVs (H : Hp) : List Out → List V → Prop := Paired (OutV H)
theorem OutVs.keep {S : List Addr} {H H' : Hp} (k : Keep S H H') {os : List Out} {vs : List V} (h : OutVs H os vs) : OutVs H' os vs := Paired.mapP h fun _ _ q => q.keep k
theorem OutVs.len {H : Hp} {os : List Out} {vs : List V} (h : OutVs H os vs) : os.length = vs.length := Paired.length h

/-! ### dicts by outcomes -/
def kK : Out → Key
  | .i n => .inl n
  | .s x => .inr x
  | .t n _ => .inl n
def kT : Out → List Key
  | .i n => [.inl n]
  | .s x => [.inr x]
  | .t n x => [.inl n, .inr x]
def dictO (fm : Nat) (kvs : List (Out × V)) : HO := if fm = 2 then .dT (kvs.map fun p => (kT p.1, p.2)) else .dK (kvs.map fun p => (kK p.1, p.2))
theorem kK_inj {a b : Out} (h : a.form = b.form) (h2 : a.form ≠ 2) (e : kK a = kK b) : a = b := by
  cases a <;> cases b <;> simp_all [Out.form, kK]
theorem kT_inj {a b : Out} (e : kT a = kT b) : a = b := by
  cases a <;> cases b <;> simp_all [kT]
theorem valV_mapK {κ μ : Type} [DecidableEq κ] [DecidableEq μ] (f : κ → μ) {k : κ} : ∀ {kvs : List (κ × V)}, (∀ p ∈ kvs, f p.1 = f k → p.1 = k) → valV (kvs.map fun p => (f p.1, p.2)) (f k) = valV kvs k
  | [], _ => rfl
  | p :: r, h => by
    have ih := valV_mapK f (k := k) (kvs := r) fun q hq => h q (List.mem_cons_of_mem _ hq)
    rw [List.map_cons]
    by_cases e : p.1 = k
    · rw [valV_pos e, valV_pos (by show f p.1 = f k; rw [e])]
    · rw [valV_neg e, valV_neg (fun z => e (h p List.mem_cons_self z)), ih]
theorem putK_cons {κ : Type} [DecidableEq κ] (kvs : List (κ × V)) (k : κ) (v : V) : putK kvs k v = if (valV kvs k).isSome then kvs.map (fun kv => if kv.1 = k then (kv.1, v) else kv) else kvs ++ [(k, v)] := by
  unfold putK
  rw [valV_any]
theorem putK_mapK {κ μ : Type} [DecidableEq κ] [DecidableEq μ] (f : κ → μ) {k : κ} {v : V} {kvs : List (κ × V)} (h : ∀ p ∈ kvs, f p.1 = f k → p.1 = k) : putK (kvs.map fun p => (f p.1, p.2)) (f k) v = (putK kvs k v).map fun p => (f p.1, p.2) := by
  rw [putK_cons, putK_cons, valV_mapK f h]
  by_cases e : (valV kvs k).isSome = true
  · rw [if_pos e, if_pos e, List.map_map, List.map_map]
    apply List.map_congr_left
    intro p hp
    show (if f p.1 = f k then (f p.1, v) else (f p.1, p.2)) = ((fun p : κ × V => (f p.1, p.2)) (if p.1 = k then (p.1, v) else p))
    by_cases z : p.1 = k
    · rw [if_pos z, if_pos (by rw [z])]
    · rw [if_neg z, if_neg fun q => z (h p hp q)]
  · rw [if_neg e, if_neg e, List.map_append]
    rfl
/-- all keys are of one form -/
def OfForm (fm : Nat) (kvs : List (Out × V)) : Prop := ∀ p ∈ kvs, p.1.form = fm
theorem OfForm.put {fm : Nat} {kvs : List (Out × V)} {o : Out} {v : V} (h : OfForm fm kvs) (ho : o.form = fm) : OfForm fm (putK kvs o v) := by
  intro p hp
  rw [putK_cons] at hp
  by_cases e : (valV kvs o).isSome = true
  · rw [if_pos e] at hp
    obtain ⟨q, hq, e2⟩ := List.mem_map.mp hp
    by_cases z : q.1 = o
    · rw [if_pos z] at e2
      rw [← e2]
      exact h q hq
    · rw [if_neg z] at e2
      rw [← e2]
      exact h q hq
  · rw [if_neg e] at hp
    rcases List.mem_append.mp hp with q | q
    · exact h p q
    · rw [List.mem_singleton.mp q]
      exact ho
theorem dGetO {H : Hp} {fm : Nat} {d : Addr} {kvs : List (Out × V)} {o : Out} {v : V} (hd : H d = some (dictO fm kvs)) (hk : OfForm fm kvs) (ho : o.form = fm) (hv : OutV H o v) : DGet H d v (valV kvs o) := by
  unfold dictO at hd
  by_cases e : fm = 2
  · rw [if_pos e] at hd
    cases o with
    | i n => rw [← ho] at e; cases e
    | s x => rw [← ho] at e; cases e
    | t n x =>
      obtain ⟨a, rfl, ha⟩ := hv
      have q := DGet.t (k := kT (.t n x)) hd ha
      rw [valV_mapK kT (k := Out.t n x) (kvs := kvs) fun p _ z => kT_inj z] at q
      exact q
  · rw [if_neg e] at hd
    have q := DGet.k (k := kK o) hd
    rw [valV_mapK kK (k := o) (kvs := kvs) fun p hp z => kK_inj ((hk p hp).trans ho.symm) (by rw [hk p hp]; exact e) z] at q
    cases o with
    | i n => rw [hv]; exact q
    | s x => rw [hv]; exact q
    | t n x => exact (e ho.symm).elim
theorem dPutO {H : Hp} {fm : Nat} {d : Addr} {kvs : List (Out × V)} {o : Out} {v x : V} (hd : H d = some (dictO fm kvs)) (hk : OfForm fm kvs) (ho : o.form = fm) (hv : OutV H o v) (hl : kvs.length < sizeLine) :
    DPut H d v x (upd H d (dictO fm (putK kvs o x))) := by
  unfold dictO at hd ⊢
  by_cases e : fm = 2
  · rw [if_pos e] at hd ⊢
    cases o with
    | i n => rw [← ho] at e; cases e
    | s x => rw [← ho] at e; cases e
    | t n z =>
      obtain ⟨a, rfl, ha⟩ := hv
      have q := DPut.t (k := kT (.t n z)) (v := x) hd ha (by rw [List.length_map]; exact hl)
      rw [putK_mapK kT (k := Out.t n z) (kvs := kvs) fun p _ z => kT_inj z] at q
      exact q
  · rw [if_neg e] at hd ⊢
    have q := DPut.k (k := kK o) (v := x) hd (by rw [List.length_map]; exact hl)
    rw [putK_mapK kK (k := o) (kvs := kvs) fun p hp z => kK_inj ((hk p hp).trans ho.symm) (by rw [hk p hp]; exact e) z] at q
    cases o with
    | i n => rw [hv]; exact q
    | s x => rw [hv]; exact q
    | t n x => exact (e ho.symm).elim
theorem isDO {H : Hp} {fm : Nat} {d : Addr} {kvs : List (Out × V)} (hd : H d = some (dictO fm kvs)) : IsD H d := by
  unfold dictO at hd
  by_cases e : fm = 2
  · rw [if_pos e] at hd
    exact .inr ⟨_, .inl hd⟩
  · rw [if_neg e] at hd
    exact .inl ⟨_, .inl hd⟩
theorem mu_dictO {fm : Nat} {kvs : List (Out × V)} : Mu (dictO fm kvs) := by
  unfold dictO
  by_cases e : fm = 2
  · rw [if_pos e]; trivial
  · rw [if_neg e]; trivial
/-- {}: a dict for keys of any one form -/
def tDNewO : TE := fun _ H Q => ∃ fm, ∀ p, H p = none → Q (.ref p) (upd H p (dictO fm []))
theorem pe_dnewO {X : Cx} {ppos : Pos} : PE X (.Dict [] [] ppos) tDNewO := ⟨fun pins s σ H Q I h => by
  obtain ⟨fm, h⟩ := h
  unfold dictO at h
  by_cases e : fm = 2
  · rw [if_pos e] at h
    exact pe_dnewT.run pins s σ H Q I h
  · rw [if_neg e] at h
    exact pe_dnewK.run pins s σ H Q I h⟩
end Fd
/-! sorted, list of outcomes, of any of the three forms. -/
namespace Fd
open PySem PySem.Spec PyProof.Rows L2
theorem ltCps_iff {a b : List Nat} : ltCps a b = decide (a < b) := ltCps_eq a b
theorem risingS_pw : ∀ {l : List Str} {p : Str}, risingS p l = true → (p :: l).Pairwise fun x y => ¬ y.cps.toList < x.cps.toList
  | [], p, _ => List.pairwise_singleton _ _
  | x :: r, p, h => by
    have h : (!ltCps x.cps.toList p.cps.toList && risingS x r) = true := h
    rw [Bool.and_eq_true_iff] at h
    have ih := risingS_pw h.2
    have h1 : ¬ x.cps.toList < p.cps.toList := by
      have q := h.1
      rw [ltCps_iff] at q
      simpa using q
    refine List.pairwise_cons.mpr ⟨fun y hy => ?_, ih⟩
    rcases List.mem_cons.mp hy with e | e
    · rw [e]; exact h1
    · have h2 := (List.pairwise_cons.mp ih).1 y e
      intro z
      exact h1 (List.lt_of_le_of_lt (List.not_lt.mp h2) z)
theorem sortedS_pw {l : List Str} (h : sortedS l = true) : l.Pairwise fun x y => ¬ y.cps.toList < x.cps.toList := by
  cases l with
  | nil => exact List.Pairwise.nil
  | cons x r => exact risingS_pw h
/-- not above, and all different: strictly below -/
theorem strict_of {os : List Out} {fm : Nat} (hf : ∀ o ∈ os, o.form = fm) (nd : os.Nodup) (h : os.Pairwise fun x y => ¬ y.lt x) : os.Pairwise Out.lt := by
  induction os with
  | nil => exact List.Pairwise.nil
  | cons a r ih =>
    obtain ⟨h1, h2⟩ := List.pairwise_cons.mp h
    obtain ⟨n1, n2⟩ := List.nodup_cons.mp nd
    refine List.pairwise_cons.mpr ⟨fun b hb => ?_, ih (fun o ho => hf o (List.mem_cons_of_mem _ ho)) n2 h2⟩
    refine Classical.byContradiction fun z => ?_
    have e := Out.lt_tot a b ((hf a List.mem_cons_self).trans (hf b (List.mem_cons_of_mem _ hb)).symm) z (h1 b hb)
    rw [e] at n1
    exact n1 hb
theorem outs_i {H : Hp} : ∀ {os : List Out} {vs : List V}, OutVs H os vs → (∀ o ∈ os, o.form = 0) → ∃ ns : List Int, os = ns.map Out.i ∧ vs = ns.map V.int
  | _, _, .nil, _ => ⟨[], rfl, rfl⟩
  | _, _, .cons (a := o) (b := v) h t, hf => by
    obtain ⟨ns, e1, e2⟩ := outs_i t fun o ho => hf o (List.mem_cons_of_mem _ ho)
    have f := hf o List.mem_cons_self
    cases o with
    | i n =>
      have h : v = V.int n := h
      exact ⟨n :: ns, by rw [e1]; rfl, by rw [e2, h]; rfl⟩
    | s x => cases f
    | t n x => cases f
theorem outs_s {H : Hp} : ∀ {os : List Out} {vs : List V}, OutVs H os vs → (∀ o ∈ os, o.form = 1) → ∃ ss : List Str, os = ss.map Out.s ∧ vs = ss.map V.str
  | _, _, .nil, _ => ⟨[], rfl, rfl⟩
  | _, _, .cons (a := o) (b := v) h t, hf => by
    obtain ⟨ns, e1, e2⟩ := outs_s t fun o ho => hf o (List.mem_cons_of_mem _ ho)
    have f := hf o List.mem_cons_self
    cases o with
    | s n =>
      have h : v = V.str n := h
      exact ⟨n :: ns, by rw [e1]; rfl, by rw [e2, h]; rfl⟩
    | i x => cases f
    | t n x => cases f
/-- the outcome of a value that is a tuple -/
def oT (H : Hp) (v : V) : Out := .t (FdS.kOf H v).1 (FdS.kOf H v).2
theorem oT_at {H : Hp} {n : Int} {x : Str} {v : V} (h : OutV H (.t n x) v) : oT H v = .t n x := by
  obtain ⟨a, rfl, ha⟩ := h
  unfold oT
  rw [FdS.kOf_at ha]
theorem outs_t {H : Hp} : ∀ {os : List Out} {vs : List V}, OutVs H os vs → (∀ o ∈ os, o.form = 2) → os = vs.map (oT H) ∧ ∀ v ∈ vs, ∃ t n z, v = V.ref t ∧ H t = some (.tup [.int n, .str z])
  | _, _, .nil, _ => ⟨rfl, fun _ h => by simp at h⟩
  | _, _, .cons (a := o) (b := v) h t, hf => by
    obtain ⟨e1, e2⟩ := outs_t t fun o ho => hf o (List.mem_cons_of_mem _ ho)
    have f := hf o List.mem_cons_self
    cases o with
    | i x => cases f
    | s n => cases f
    | t n x =>
      refine ⟨by rw [List.map_cons, oT_at h, ← e1], fun u hu => ?_⟩
      rcases List.mem_cons.mp hu with e | e
      · obtain ⟨a, ea, ha⟩ := h
        rw [e]
        exact ⟨a, n, x, ea, ha⟩
      · exact e2 u e
theorem outs_back {H : Hp} : ∀ {vs : List V}, (∀ v ∈ vs, ∃ t n z, v = V.ref t ∧ H t = some (.tup [.int n, .str z])) → OutVs H (vs.map (oT H)) vs
  | [], _ => .nil
  | v :: r, h => by
    refine .cons ?_ (outs_back fun u hu => h u (List.mem_cons_of_mem _ hu))
    obtain ⟨t, n, z, rfl, ht⟩ := h v List.mem_cons_self
    have e : oT H (.ref t) = .t n z := oT_at ⟨t, rfl, ht⟩
    rw [e]
    exact ⟨t, rfl, ht⟩
theorem outs_map_i {H : Hp} : ∀ ns : List Int, OutVs H (ns.map Out.i) (ns.map V.int)
  | [] => .nil
  | _ :: r => .cons rfl (outs_map_i r)
theorem outs_map_s {H : Hp} : ∀ ns : List Str, OutVs H (ns.map Out.s) (ns.map V.str)
  | [] => .nil
  | _ :: r => .cons rfl (outs_map_s r)
section
variable {X : Cx}
/-- what sorted hands back: the outcomes in strict order -/
def Back (H : Hp) (os : List Out) (Q : VK) : Prop := ∀ (os' : List Out) (ys : List V) (p : Addr), os'.Perm os → os'.Pairwise Out.lt → OutVs H os' ys → H p = none → Q (.ref p) (upd H p (.lst ys))
theorem back_i {H : Hp} {ns : List Int} {Q : VK} (nd : (ns.map Out.i).Nodup) (q : Back H (ns.map Out.i) Q) {ns' : List Int} {p : Addr} (h1 : ns'.Perm ns) (h2 : ns'.Pairwise (· ≤ ·)) (hp : H p = none) : Q (.ref p) (upd H p (.lst (ns'.map V.int))) := by
  have pm : (ns'.map Out.i).Perm (ns.map Out.i) := h1.map _
  refine q (ns'.map Out.i) _ p pm (strict_of (fm := 0) (fun o ho => ?_) (pm.nodup_iff.mpr nd) (List.pairwise_map.mpr (h2.imp fun {x y} h z => ?_))) (outs_map_i _) hp
  · obtain ⟨n, _, e⟩ := List.mem_map.mp ho
    rw [← e]; rfl
  · have z : y < x := z
    omega
theorem back_s {H : Hp} {ns : List Str} {Q : VK} (nd : (ns.map Out.s).Nodup) (q : Back H (ns.map Out.s) Q) {ns' : List Str} {p : Addr} (h1 : ns'.Perm ns) (h2 : sortedS ns' = true) (hp : H p = none) : Q (.ref p) (upd H p (.lst (ns'.map V.str))) := by
  have pm : (ns'.map Out.s).Perm (ns.map Out.s) := h1.map _
  refine q (ns'.map Out.s) _ p pm (strict_of (fm := 1) (fun o ho => ?_) (pm.nodup_iff.mpr nd) (List.pairwise_map.mpr ((sortedS_pw h2).imp fun {x y} h z => h z))) (outs_map_s _) hp
  obtain ⟨n, _, e⟩ := List.mem_map.mp ho
  rw [← e]; rfl
theorem back_t {H : Hp} {vs : List V} {Q : VK} (hv : ∀ v ∈ vs, ∃ t n z, v = V.ref t ∧ H t = some (.tup [.int n, .str z])) (nd : (vs.map (oT H)).Nodup) (q : Back H (vs.map (oT H)) Q) {ys : List V} {p : Addr} (h1 : ys.Perm vs)
    (h2 : SrtO.Srtd (fun x y => FdS.lexS (FdS.kOf H x) (FdS.kOf H y)) ys) (hp : H p = none) : Q (.ref p) (upd H p (.lst ys)) := by
  have pm : (ys.map (oT H)).Perm (vs.map (oT H)) := h1.map _
  refine q (ys.map (oT H)) _ p pm (strict_of (fm := 2) (fun o ho => ?_) (pm.nodup_iff.mpr nd) (List.pairwise_map.mpr (h2.imp fun {x y} h z => ?_))) (outs_back fun v hm => hv v (h1.mem_iff.mp hm)) hp
  · obtain ⟨n, _, e⟩ := List.mem_map.mp ho
    rw [← e]; rfl
  · have h : FdS.lexS (FdS.kOf H y) (FdS.kOf H x) = false := h
    exact of_decide_eq_false h z
/-- sorted(xs), xs a list of different outcomes of one form -/
def rSortO (K : PySem.W.Frag) : List V → Hp → VK → Prop := fun vs H Q => ∃ (a : Addr) (xs : List V) (os : List Out) (fm : Nat), vs = [V.ref a] ∧ SqL K H a xs ∧ OutVs H os xs ∧ (∀ o ∈ os, o.form = fm) ∧ os.Nodup ∧ os.length < 64 ∧ Back H os Q
theorem form3 {os : List Out} {fm : Nat} (hf : ∀ o ∈ os, o.form = fm) : (∀ o ∈ os, o.form = 0) ∨ (∀ o ∈ os, o.form = 1) ∨ ∀ o ∈ os, o.form = 2 := by
  cases os with
  | nil => exact .inl fun o h => by simp at h
  | cons o r =>
    have f := hf o List.mem_cons_self
    cases o with
    | i n => exact .inl fun o' h => (hf o' h).trans f.symm
    | s n => exact .inr (.inl fun o' h => (hf o' h).trans f.symm)
    | t n x => exact .inr (.inr fun o' h => (hf o' h).trans f.symm)
theorem cr_sortO : CallR X (.builtin "sorted") (rSortO X.K) := by
  intro pins s σ H vs us Q I r h
  obtain ⟨a, xs, os, fm, rfl, hs, ho, hf, nd, hl, q⟩ := h
  rcases form3 hf with f | f | f
  · obtain ⟨ns, rfl, rfl⟩ := outs_i ho f
    exact cr_sortedI pins s σ H _ us Q I r ⟨a, ns, rfl, hs, fun ns' p h1 h2 hp => back_i nd q h1 h2 hp⟩
  · obtain ⟨ns, rfl, rfl⟩ := outs_s ho f
    exact cr_sortedS pins s σ H _ us Q I r ⟨a, ns, rfl, hs, by rw [List.length_map] at hl; exact hl, fun ns' p h1 h2 hp => back_s nd q h1 h2 hp⟩
  · obtain ⟨rfl, hv⟩ := outs_t ho f
    exact FdS.cr_sortTS pins s σ H _ us Q I r ⟨a, xs, rfl, hs, hv, fun ys p h1 h2 hp => back_t hv nd q h2 h1 hp⟩
/-- the keys of a dict, as outcomes -/
theorem keys_t {H : Hp} : ∀ {kvs : List (Out × V)} {bs : List Addr}, IsKeys H (kvs.map fun p => (kT p.1, p.2)) bs → (∀ p ∈ kvs, p.1.form = 2) → OutVs H (kvs.map (·.1)) (bs.map V.ref)
  | [], _, .nil, _ => .nil
  | p :: r, _, .cons (b := b) h t, hf => by
    refine .cons ?_ (keys_t t fun q hq => hf q (List.mem_cons_of_mem _ hq))
    have f := hf p List.mem_cons_self
    obtain ⟨o, v⟩ := p
    cases o with
    | i n => cases f
    | s n => cases f
    | t n x => exact ⟨b, rfl, h⟩
theorem form3d {kvs : List (Out × V)} {fm : Nat} (hf : OfForm fm kvs) (hn : fm ≠ 2) : (∃ ns : List Int, kvs.map (·.1) = ns.map Out.i) ∨ ∃ ss : List Str, kvs.map (·.1) = ss.map Out.s := by
  by_cases h0 : fm = 0
  · refine .inl ⟨kvs.map fun p => match p.1 with | .i n => n | _ => 0, ?_⟩
    rw [List.map_map]
    apply List.map_congr_left
    intro p hp
    have f := hf p hp
    rw [h0] at f
    obtain ⟨o, v⟩ := p
    cases o with
    | i n => rfl
    | s n => cases f
    | t n x => cases f
  · refine .inr ⟨kvs.map fun p => match p.1 with | .s n => n | _ => ⟨#[]⟩, ?_⟩
    rw [List.map_map]
    apply List.map_congr_left
    intro p hp
    have f := hf p hp
    obtain ⟨o, v⟩ := p
    cases o with
    | i n => exact (h0 f.symm).elim
    | s n => rfl
    | t n x => exact (hn f.symm).elim
theorem kK_keys {kvs : List (Out × V)} {α : Type} {f : α → Out} {g : α → Key} {ns : List α} (hg : ∀ n, kK (f n) = g n) (e : kvs.map (·.1) = ns.map f) : (kvs.map fun p => (kK p.1, p.2)).map (·.1) = ns.map g := by
  have e2 := congrArg (List.map kK) e
  rw [List.map_map, List.map_map] at e2
  rw [List.map_map]
  refine Eq.trans e2 ?_
  apply List.map_congr_left
  intro n _
  exact hg n
/-- sorted(d), d a dict by outcomes -/
def rSortDO : List V → Hp → VK → Prop := fun vs H Q => ∃ (d : Addr) (kvs : List (Out × V)) (fm : Nat), vs = [V.ref d] ∧ H d = some (dictO fm kvs) ∧ OfForm fm kvs ∧ (kvs.map (·.1)).Nodup ∧ kvs.length < 64 ∧ Back H (kvs.map (·.1)) Q
theorem cr_sortDO (hc : X.calm = true) : CallR X (.builtin "sorted") rSortDO := by
  intro pins s σ H vs us Q I r h
  obtain ⟨d, kvs, fm, rfl, hd, hf, nd, hl, q⟩ := h
  by_cases e : fm = 2
  · have hd : H d = some (.dT (kvs.map fun p => (kT p.1, p.2))) := by
      unfold dictO at hd
      rw [if_pos e] at hd
      exact hd
    have hf : ∀ p ∈ kvs, p.1.form = 2 := fun p hp => (hf p hp).trans e
    refine FdS.cr_sortDTS hc pins s σ H _ us Q I r ⟨d, _, rfl, .inl hd, fun p hp => ?_, fun bs hb ys p h1 h2 hp => ?_⟩
    · obtain ⟨p', hp', e2⟩ := List.mem_map.mp hp
      have f := hf p' hp'
      obtain ⟨o, v⟩ := p'
      cases o with
      | i n => cases f
      | s n => cases f
      | t n x => exact ⟨n, x, by rw [← e2]; rfl⟩
    · have ho := keys_t hb hf
      obtain ⟨e3, hv⟩ := outs_t ho fun o hm => by
        obtain ⟨p', hp', e4⟩ := List.mem_map.mp hm
        rw [← e4]; exact hf p' hp'
      rw [e3] at q nd
      exact back_t hv nd q h2 h1 hp
  · have hd : H d = some (.dK (kvs.map fun p => (kK p.1, p.2))) := by
      unfold dictO at hd
      rw [if_neg e] at hd
      exact hd
    rcases form3d hf e with ⟨ns, e2⟩ | ⟨ns, e2⟩
    · rw [e2] at q nd
      refine call_sortedDI hc pins s σ H _ us Q I r ⟨d, _, ns, rfl, .inl hd, kK_keys (fun _ => rfl) e2, ?_, fun ys p h1 h2 hp => back_i nd q h1 h2 hp⟩
      have z := congrArg List.length e2
      rw [List.length_map, List.length_map] at z
      omega
    · rw [e2] at q nd
      refine call_sortedD hc pins s σ H _ us Q I r ⟨d, _, ns, rfl, .inl hd, kK_keys (fun _ => rfl) e2, ?_, fun ys p h1 h2 hp => back_s nd q h1 h2 hp⟩
      have z := congrArg List.length e2
      rw [List.length_map, List.length_map] at z
      omega
/-- list(d), d a dict by outcomes -/
def rListDO : List V → Hp → VK → Prop := fun vs H Q => ∃ (d : Addr) (kvs : List (Out × V)) (fm : Nat), vs = [V.ref d] ∧ H d = some (dictO fm kvs) ∧ OfForm fm kvs ∧
  ∀ (ys : List V) (p : Addr), OutVs H (kvs.map (·.1)) ys → H p = none → Q (.ref p) (upd H p (.lst ys))
theorem cr_listDO (hc : X.calm = true) : CallR X (.type "list") rListDO := by
  intro pins s σ H vs us Q I r h
  obtain ⟨d, kvs, fm, rfl, hd, hf, q⟩ := h
  by_cases e : fm = 2
  · have hd : H d = some (.dT (kvs.map fun p => (kT p.1, p.2))) := by
      unfold dictO at hd
      rw [if_pos e] at hd
      exact hd
    have hf : ∀ p ∈ kvs, p.1.form = 2 := fun p hp => (hf p hp).trans e
    exact call_list_dT hc pins s σ H _ us Q I r ⟨d, _, rfl, .inl hd, fun p bs hp hb => q _ p (keys_t hb hf) hp⟩
  · have hd : H d = some (.dK (kvs.map fun p => (kK p.1, p.2))) := by
      unfold dictO at hd
      rw [if_neg e] at hd
      exact hd
    refine call_listD hc pins s σ H _ us Q I r ⟨d, _, rfl, .inl hd, fun p hp => q _ p ?_ hp⟩
    rw [List.map_map]
    rcases form3d hf e with ⟨ns, e2⟩ | ⟨ns, e2⟩
    · have z : (kvs.map ((fun kv : Key × V => kV kv.1) ∘ fun p => (kK p.1, p.2))) = ns.map V.int := by
        have e3 := congrArg (List.map fun o => kV (kK o)) e2
        rw [List.map_map, List.map_map] at e3
        exact e3
      rw [z, e2]
      exact outs_map_i ns
    · have z : (kvs.map ((fun kv : Key × V => kV kv.1) ∘ fun p => (kK p.1, p.2))) = ns.map V.str := by
        have e3 := congrArg (List.map fun o => kV (kK o)) e2
        rw [List.map_map, List.map_map] at e3
        exact e3
      rw [z, e2]
      exact outs_map_s ns
end
end Fd
/-! Fractions: lowest, plus, times, less, sum_of. -/
namespace Fd
open PySem PySem.Spec PyProof.Rows L2
theorem atI_0 {x : V} {r : List V} : atI (x :: r) 0 = some x := atI_nat (j := 0) rfl
theorem atI_1 {x y : V} {r : List V} : atI (x :: y :: r) 1 = some y := atI_nat (j := 1) rfl
theorem atI_2 {x y z : V} {r : List V} : atI (x :: y :: z :: r) 2 = some z := atI_nat (j := 2) rfl
theorem atI_3 {x y z u : V} {r : List V} : atI (x :: y :: z :: u :: r) 3 = some u := atI_nat (j := 3) rfl
/-! ### promises -/
/-- lowest(a, b) of naturals -/
def spLowest : Sp := fun vs H Q _ => ∃ a b : Nat, vs = [.int (a : Nat), .int (b : Nat)] ∧ 0 < b ∧ b < 1073741824 ∧ ∀ t, H t = none → Q (.ref t) (upd H t (.tup (frL (fr a b))))
def spTimes (K : PySem.W.Frag) : Sp := fun vs H Q _ => ∃ (x y : V) (a b c d : Nat), vs = [x, y] ∧ IsFr K H x (fr a b) ∧ IsFr K H y (fr c d) ∧ 0 < b ∧ 0 < d ∧ a < 1073741824 ∧ b * d < 1073741824 ∧
  ∀ t, H t = none → Q (.ref t) (upd H t (.tup (frL (fr (a * c) (b * d)))))
def spPlus (K : PySem.W.Frag) : Sp := fun vs H Q _ => ∃ (x y : V) (a b n : Nat), vs = [x, y] ∧ IsFr K H x (fr a n) ∧ IsFr K H y (fr b n) ∧ 0 < n ∧ n ≤ 1800 ∧ a ≤ n ∧ b ≤ n ∧
  ∀ t, H t = none → Q (.ref t) (upd H t (.tup (frL (fr (a + b) n))))
/-- less(x, NOTHING) -/
def spLess (K : PySem.W.Frag) : Sp := fun vs H Q _ => ∃ (x y : V) (p : Nat × Nat), vs = [x, y] ∧ IsFr K H x p ∧ IsFr K H y (0, 1) ∧ p.1 < 1073741824 ∧ p.2 < 1073741824 ∧ Q (.bl false) H
/-- the values stand for the fractions c / n -/
abbrev FrAll (K : PySem.W.Frag) (H : Hp) (n : Nat) : List V → List Nat → Prop := Paired fun v c => IsFr K H v (fr c n)
def spSumOf (K : PySem.W.Frag) : Sp := fun vs H Q _ => ∃ (l : Addr) (xs : List V) (cs : List Nat) (n : Nat), vs = [.ref l] ∧ SqL K H l xs ∧ FrAll K H n xs cs ∧ 0 < n ∧ n ≤ 1800 ∧ cs.sum ≤ n ∧
  ∀ v H', Same H H' → IsFr K H' v (fr cs.sum n) → Q v H'
section
variable {P : Program} {w : World} {K : PySem.W.Frag} {mg : Str → Option Value} {base : Heap}
theorem scLowest : FnScope ["p", "q", "divisor"] ["p", "q"] (defScope sLowest) := ⟨rfl, rfl, rfl, by decide +kernel, rfl, by decide +kernel, by decide +kernel⟩
theorem ok_lowest {f : Addr} {fd : FuncData} (F : Fun K "lowest" "lowest" sLowest f fd) (gG : mg "gcd" = some (.builtin "math.gcd")) : FnOk P w K mg base CX0 1 f fd ["p", "q"] spLowest := by
  refine F.ok scLowest (fun vs H Q E h => ?_) (fun cdv A outer s H vs Q E hr h => ?_)
  · obtain ⟨a, b, rfl, _⟩ := h
    rfl
  obtain ⟨a, b, rfl, hb, hb2, q⟩ := h
  refine ⟨_, pss_cons (ps_if (pt_cmpR op_eq (pv 1) pe_int (nomark _)) pss_never pss_nil)
    (pss_cons (ps_set (i := 2) scLowest.nd rfl (Or.inl rfl) (pe_callBfun cr_gcd (by rfl) gG (pa_cons (pv 0) (pa_cons (pv 1) pa_nil))))
    (pss_cons (ps_if (pt_cmpR op_lt (pv 1) pe_int (nomark _)) (pss_one (ps_set (i := 2) scLowest.nd rfl (Or.inl rfl) (pe_un un_neg (pv 2)))) pss_nil)
    (pss_one (ps_ret (pe_tup (pa_cons (pe_op op_fdiv (pv 0) (pv 2)) (pa_cons (pe_op op_fdiv (pv 1) (pv 2)) pa_nil))))))), ?_⟩
  have g0 : 0 < Nat.gcd a b := Nat.gcd_pos_of_pos_right _ hb
  have g1 : Nat.gcd a b ≤ b := Nat.le_of_dvd hb (Nat.gcd_dvd_right a b)
  have gi : CDiv ((a : Nat) : Int) ((Nat.gcd a b : Nat) : Int) := ⟨by omega, by omega⟩
  have gj : CDiv ((b : Nat) : Int) ((Nat.gcd a b : Nat) : Int) := ⟨by omega, by omega⟩
  refine ⟨_, rfl, rfl, _, rfl, ?_⟩
  refine ite2 (fun c => ?_) (fun c => ?_)
  · exfalso
    have c' : V.int ((b : Nat) : Int) = V.int 0 := of_decide_eq_true c
    have c2 : ((b : Nat) : Int) = 0 := V.int.inj c'
    omega
  refine ⟨_, rfl, _, rfl, _, _, rfl, _, rfl, _, _, rfl, rfl, _, rfl, ?_⟩
  refine ite2 (fun c => ?_) (fun c => ?_)
  · exfalso
    have c2 : ((b : Nat) : Int) < 0 := of_decide_eq_true c
    omega
  refine ⟨_, rfl, _, rfl, _, _, rfl, rfl, gi, _, rfl, _, rfl, _, _, rfl, rfl, gj, (by show 2 ≤ sizeLine; decide), fun t ht => ?_⟩
  exact q t ht
theorem scTimes : FnScope ["a", "b"] ["a", "b"] (defScope sTimes) := ⟨rfl, rfl, rfl, by decide +kernel, rfl, by decide +kernel, by decide +kernel⟩
theorem ok_times {f : Addr} {fd : FuncData} (F : Fun K "times" "times" sTimes f fd) (hL : Has P w K mg base "lowest" 1 ["p", "q"] spLowest) : FnOk P w K mg base CX0 2 f fd ["a", "b"] (spTimes K) := by
  obtain ⟨fL, dL, mL, GL, bL, kL⟩ := hL
  refine F.ok scTimes (fun vs H Q E h => ?_) (fun cdv A outer s H vs Q E hr h => ?_)
  · obtain ⟨x, y, a, b, c, d, rfl, _⟩ := h
    rfl
  obtain ⟨x, y, a, b, c, d, rfl, ⟨ax, rfl, hx⟩, ⟨ay, rfl, hy⟩, hb, hd, ha, hbd, q⟩ := h
  refine ⟨_, pss_one (ps_ret (pe_call GL hr rfl mL kL bL .nil pass0 (pa_cons (pe_op op_mul (pe_ix ix_tup (pv 0) pe_int (fun _ _ => rfl)) (pe_ix ix_tup (pv 1) pe_int (fun _ _ => rfl)))
    (pa_cons (pe_op op_mul (pe_ix ix_tup (pv 0) pe_int (fun _ _ => rfl)) (pe_ix ix_tup (pv 1) pe_int (fun _ _ => rfl))) pa_nil)))), ?_⟩
  have l1 := fr_le (a := a) (b := b)
  have l2 := fr_le (a := c) (b := d)
  have hb2 : b ≤ b * d := Nat.le_mul_of_pos_right b hd
  have m1 : (fr a b).2 * (fr c d).2 ≤ b * d := Nat.mul_le_mul l1.2 l2.2
  refine ⟨_, rfl, _, _, _, _, rfl, rfl, hx, atI_0, _, rfl, _, _, _, _, rfl, rfl, hy, atI_0, _, _, rfl, rfl, .inl ⟨by omega, by omega⟩, ?_⟩
  refine ⟨_, rfl, _, _, _, _, rfl, rfl, hx, atI_1, _, rfl, _, _, _, _, rfl, rfl, hy, atI_1, _, _, rfl, rfl, .inl ⟨by omega, by omega⟩, ?_⟩
  refine ⟨(fr a b).1 * (fr c d).1, (fr a b).2 * (fr c d).2, ?_, Nat.mul_pos (fr_den hb) (fr_den hd), by omega, fun t ht => ?_⟩
  · rw [Int.natCast_mul, Int.natCast_mul]
    rfl
  · rw [fr_mul hb hd]
    exact q t ht
theorem scPlus : FnScope ["a", "b"] ["a", "b"] (defScope sPlus) := ⟨rfl, rfl, rfl, by decide +kernel, rfl, by decide +kernel, by decide +kernel⟩
theorem ok_plus {f : Addr} {fd : FuncData} (F : Fun K "plus" "plus" sPlus f fd) (hL : Has P w K mg base "lowest" 1 ["p", "q"] spLowest) : FnOk P w K mg base CX0 2 f fd ["a", "b"] (spPlus K) := by
  obtain ⟨fL, dL, mL, GL, bL, kL⟩ := hL
  refine F.ok scPlus (fun vs H Q E h => ?_) (fun cdv A outer s H vs Q E hr h => ?_)
  · obtain ⟨x, y, a, b, n, rfl, _⟩ := h
    rfl
  obtain ⟨x, y, a, b, n, rfl, ⟨ax, rfl, hx⟩, ⟨ay, rfl, hy⟩, hn, hn2, ha, hb, q⟩ := h
  refine ⟨_, pss_one (ps_ret (pe_call GL hr rfl mL kL bL .nil pass0 (pa_cons (pe_op op_add (pe_op op_mul (pe_ix ix_tup (pv 0) pe_int (fun _ _ => rfl)) (pe_ix ix_tup (pv 1) pe_int (fun _ _ => rfl)))
      (pe_op op_mul (pe_ix ix_tup (pv 1) pe_int (fun _ _ => rfl)) (pe_ix ix_tup (pv 0) pe_int (fun _ _ => rfl))))
    (pa_cons (pe_op op_mul (pe_ix ix_tup (pv 0) pe_int (fun _ _ => rfl)) (pe_ix ix_tup (pv 1) pe_int (fun _ _ => rfl))) pa_nil)))), ?_⟩
  have l1 := fr_le (a := a) (b := n)
  have l2 := fr_le (a := b) (b := n)
  have m1 : (fr a n).2 * (fr b n).2 ≤ 1800 * 1800 := Nat.mul_le_mul (by omega) (by omega)
  refine ⟨_, rfl, _, _, _, _, rfl, rfl, hx, atI_0, _, rfl, _, _, _, _, rfl, rfl, hy, atI_1, _, _, rfl, rfl, .inl ⟨by omega, by omega⟩, ?_⟩
  refine ⟨_, rfl, _, _, _, _, rfl, rfl, hy, atI_0, _, rfl, _, _, _, _, rfl, rfl, hx, atI_1, _, _, rfl, rfl, .inl ⟨by omega, by omega⟩, _, _, rfl, rfl, ?_⟩
  refine ⟨_, rfl, _, _, _, _, rfl, rfl, hx, atI_1, _, rfl, _, _, _, _, rfl, rfl, hy, atI_1, _, _, rfl, rfl, .inl ⟨by omega, by omega⟩, ?_⟩
  refine ⟨(fr a n).1 * (fr b n).2 + (fr b n).1 * (fr a n).2, (fr a n).2 * (fr b n).2, ?_, Nat.mul_pos (fr_den hn) (fr_den hn), by omega, fun t ht => ?_⟩
  · rw [Int.natCast_add, Int.natCast_mul, Int.natCast_mul, Int.natCast_mul]
    rfl
  · rw [fr_add hn]
    exact q t ht
theorem scLess : FnScope ["a", "b"] ["a", "b"] (defScope sLess) := ⟨rfl, rfl, rfl, by decide +kernel, rfl, by decide +kernel, by decide +kernel⟩
theorem ok_less {f : Addr} {fd : FuncData} (F : Fun K "less" "less" sLess f fd) : FnOk P w K mg base CX0 1 f fd ["a", "b"] (spLess K) := by
  refine F.ok scLess (fun vs H Q E h => ?_) (fun cdv A outer s H vs Q E hr h => ?_)
  · obtain ⟨x, y, p, rfl, _⟩ := h
    rfl
  obtain ⟨x, y, p, rfl, ⟨ax, rfl, hx⟩, ⟨ay, rfl, hy⟩, h1, h2, q⟩ := h
  refine ⟨_, pss_one (ps_ret (pe_cmpR op_lt (pe_op op_mul (pe_ix ix_tup (pv 0) pe_int (fun _ _ => rfl)) (pe_ix ix_tup (pv 1) pe_int (fun _ _ => rfl)))
      (pe_op op_mul (pe_ix ix_tup (pv 1) pe_int (fun _ _ => rfl)) (pe_ix ix_tup (pv 0) pe_int (fun _ _ => rfl))) (nomark _))), ?_⟩
  refine ⟨_, rfl, _, _, _, _, rfl, rfl, hx, atI_0, _, rfl, _, _, _, _, rfl, rfl, hy, atI_1, _, _, rfl, rfl, .inl ⟨by omega, by omega⟩, ?_⟩
  refine ⟨_, rfl, _, _, _, _, rfl, rfl, hy, atI_0, _, rfl, _, _, _, _, rfl, rfl, hx, atI_1, _, _, rfl, rfl, .inl ⟨by decide, by decide⟩, _, _, rfl, rfl, ?_⟩
  have e : decide (((p.1 : Nat) : Int) * (((0, 1) : Nat × Nat).2 : Nat) < (((0, 1) : Nat × Nat).1 : Nat) * ((p.2 : Nat) : Int)) = false := by
    refine decide_eq_false ?_
    show ¬ ((p.1 : Nat) : Int) * ((1 : Nat) : Int) < ((0 : Nat) : Int) * ((p.2 : Nat) : Int)
    omega
  show Q (.bl (decide (((p.1 : Nat) : Int) * (((0, 1) : Nat × Nat).2 : Nat) < (((0, 1) : Nat × Nat).1 : Nat) * ((p.2 : Nat) : Int)))) H
  rw [e]
  exact q
end
end Fd
/-! sum_of, are_chances, law_from. -/
namespace Fd
open PySem PySem.Spec PyProof.Rows L2
theorem paired_get {α β : Type} {F : α → β → Prop} : ∀ {xs : List α} {ys : List β} {i : Nat} {x : α}, Paired F xs ys → xs[i]? = some x → ∃ y, ys[i]? = some y ∧ F x y
  | _, _, _, _, .nil, e => by simp at e
  | _, _, 0, _, .cons r _, e => by simp at e; subst e; exact ⟨_, rfl, r⟩
  | _, _, i + 1, x, .cons _ t, e => by
    obtain ⟨u, h1, h2⟩ := paired_get (i := i) (x := x) t (by simpa using e)
    exact ⟨u, by simpa using h1, h2⟩
theorem paired_get2 {α β : Type} {F : α → β → Prop} : ∀ {xs : List α} {ys : List β} {i : Nat} {y : β}, Paired F xs ys → ys[i]? = some y → ∃ x, xs[i]? = some x ∧ F x y
  | _, _, _, _, .nil, e => by simp at e
  | _, _, 0, _, .cons r _, e => by simp at e; subst e; exact ⟨_, rfl, r⟩
  | _, _, i + 1, x, .cons _ t, e => by
    obtain ⟨u, h1, h2⟩ := paired_get2 (i := i) (y := x) t (by simpa using e)
    exact ⟨u, by simpa using h1, h2⟩
theorem paired_snoc {α β : Type} {F : α → β → Prop} : ∀ {xs : List α} {ys : List β} {x : α} {y : β}, Paired F xs ys → F x y → Paired F (xs ++ [x]) (ys ++ [y])
  | _, _, _, _, .nil, h => .cons h .nil
  | _, _, _, _, .cons r t, h => .cons r (paired_snoc t h)
theorem paired_swap {α β : Type} {F : α → β → Prop} : ∀ {xs : List α} {ys : List β}, Paired F xs ys → Paired (fun y x => F x y) ys xs
  | _, _, .nil => .nil
  | _, _, .cons r t => .cons r (paired_swap t)
theorem take_next {α : Type} {l : List α} {i : Nat} {x : α} (h : l[i]? = some x) : l.take (i + 1) = l.take i ++ [x] := by
  rw [List.take_add_one, h]
  rfl
theorem lt_of_get {α : Type} {l : List α} {i : Nat} {x : α} (h : l[i]? = some x) : i < l.length := (List.getElem?_eq_some_iff.mp h).1
theorem sum_take_le (l : List Nat) (i : Nat) : (l.take i).sum ≤ l.sum := by
  have e : (l.take i ++ l.drop i).sum = l.sum := by rw [List.take_append_drop]
  rw [List.sum_append] at e
  omega
theorem Same.put {H H' : Hp} {D : Addr} (s : Same H H') (hD : H D = none) (o : HO) : Same H (upd H' D o) := fun b u e => by
  rw [upd_ne (ne_of_none e hD)]
  exact s b u e
theorem FrAll.same {K : PySem.W.Frag} {H H' : Hp} {n : Nat} {xs : List V} {cs : List Nat} (s : Same H H') (h : FrAll K H n xs cs) : FrAll K H' n xs cs := Paired.mapP h fun _ _ q => q.same s
/-- the module's constants NOTHING and ONE -/
structure Cst (K : PySem.W.Frag) (mg : Str → Option Value) (aN aO : Addr) : Prop where
  gN : mg "NOTHING" = some (.ref aN)
  gO : mg "ONE" = some (.ref aO)
  sN : ∀ H, SqT K H aN (frL (0, 1))
  sO : ∀ H, SqT K H aO (frL (1, 1))
theorem Cst.frN {K : PySem.W.Frag} {mg : Str → Option Value} {aN aO : Addr} (c : Cst K mg aN aO) (H : Hp) : IsFr K H (.ref aN) (0, 1) := ⟨aN, rfl, c.sN H⟩
theorem Cst.frO {K : PySem.W.Frag} {mg : Str → Option Value} {aN aO : Addr} (c : Cst K mg aN aO) (H : Hp) : IsFr K H (.ref aO) (1, 1) := ⟨aO, rfl, c.sO H⟩
/-! ### rows: outcomes with fractions -/
def RowOk (K : PySem.W.Frag) (H : Hp) (n : Nat) (v : V) (q : Out × Nat) : Prop := ∃ t u c, v = .ref t ∧ H t = some (.tup [u, c]) ∧ OutV H q.1 u ∧ IsFr K H c (fr q.2 n)
theorem RowOk.keep {K : PySem.W.Frag} {S : List Addr} {H H' : Hp} {n : Nat} {v : V} {q : Out × Nat} (k : Keep S H H') (h : RowOk K H n v q) : RowOk K H' n v q :=
  let ⟨t, u, c, e, h1, h2, h3⟩ := h; ⟨t, u, c, e, k.tup _ _ h1, h2.keep k, h3.keep k⟩
theorem RowOk.same {K : PySem.W.Frag} {H H' : Hp} {n : Nat} {v : V} {q : Out × Nat} (k : Same H H') (h : RowOk K H n v q) : RowOk K H' n v q := h.keep (Keep.of_same (S := []) k)
abbrev RowsV (K : PySem.W.Frag) (H : Hp) (n : Nat) : List V → List (Out × Nat) → Prop := Paired (RowOk K H n)
theorem RowsV.keep {K : PySem.W.Frag} {S : List Addr} {H H' : Hp} {n : Nat} {xs : List V} {rs : List (Out × Nat)} (k : Keep S H H') (h : RowsV K H n xs rs) : RowsV K H' n xs rs := Paired.mapP h fun _ _ q => q.keep k
theorem RowsV.same {K : PySem.W.Frag} {H H' : Hp} {n : Nat} {xs : List V} {rs : List (Out × Nat)} (k : Same H H') (h : RowsV K H n xs rs) : RowsV K H' n xs rs := h.keep (Keep.of_same (S := []) k)
def tot (o : Out) (rs : List (Out × Nat)) : Nat := (rs.map fun q => if q.1 = o then q.2 else 0).sum
theorem tot_snoc (o : Out) (rs : List (Out × Nat)) (q : Out × Nat) : tot o (rs ++ [q]) = tot o rs + if q.1 = o then q.2 else 0 := by
  unfold tot
  rw [List.map_append, List.sum_append]
  simp
theorem tot_le (o : Out) : ∀ rs : List (Out × Nat), tot o rs ≤ (rs.map (·.2)).sum
  | [] => Nat.le_refl _
  | q :: r => by
    have ih := tot_le o r
    show (if q.1 = o then q.2 else 0) + tot o r ≤ q.2 + (r.map (·.2)).sum
    by_cases e : q.1 = o
    · rw [if_pos e]; omega
    · rw [if_neg e]; omega
theorem tot_pos {o : Out} : ∀ {rs : List (Out × Nat)}, (∀ q ∈ rs, 0 < q.2) → o ∈ rs.map (·.1) → 0 < tot o rs
  | [], _, h => by simp at h
  | q :: r, hp, h => by
    show 0 < (if q.1 = o then q.2 else 0) + tot o r
    rw [List.map_cons] at h
    rcases List.mem_cons.mp h with e | e
    · rw [if_pos e.symm]
      have := hp q List.mem_cons_self
      omega
    · have := tot_pos (fun x hx => hp x (List.mem_cons_of_mem _ hx)) e
      omega
theorem tot_zero {o : Out} : ∀ {rs : List (Out × Nat)}, ¬ o ∈ rs.map (·.1) → tot o rs = 0
  | [], _ => rfl
  | q :: r, h => by
    show (if q.1 = o then q.2 else 0) + tot o r = 0
    rw [List.map_cons] at h
    rw [if_neg fun e => h (List.mem_cons.mpr (.inl e.symm)), tot_zero fun m => h (List.mem_cons_of_mem _ m)]
/-! ### dicts by outcomes, grown -/
structure DI (fm : Nat) (kvs : List (Out × V)) (outs : List Out) : Prop where
  form : OfForm fm kvs
  nd : (kvs.map (·.1)).Nodup
  mem : ∀ o, o ∈ kvs.map (·.1) ↔ o ∈ outs
theorem DI.nil (fm : Nat) : DI fm [] [] := ⟨fun p h => by simp at h, List.nodup_nil, fun o => Iff.rfl⟩
theorem keys_put (kvs : List (Out × V)) (o : Out) (v : V) : (putK kvs o v).map (·.1) = if (valV kvs o).isSome = true then kvs.map (·.1) else kvs.map (·.1) ++ [o] := by
  rw [putK_cons]
  by_cases e : (valV kvs o).isSome = true
  · rw [if_pos e, if_pos e, List.map_map]
    apply List.map_congr_left
    intro p _
    show (if p.1 = o then (p.1, v) else p).1 = p.1
    by_cases z : p.1 = o
    · rw [if_pos z]
    · rw [if_neg z]
  · rw [if_neg e, if_neg e, List.map_append]
    rfl
theorem DI.put {fm : Nat} {kvs : List (Out × V)} {outs : List Out} {o : Out} (d : DI fm kvs outs) (ho : o.form = fm) (v : V) : DI fm (putK kvs o v) (outs ++ [o]) := by
  refine ⟨d.form.put ho, ?_, fun x => ?_⟩
  · rw [keys_put]
    by_cases e : (valV kvs o).isSome = true
    · rw [if_pos e]; exact d.nd
    · rw [if_neg e]
      refine nd_snoc d.nd (valV_not ?_)
      cases q : valV kvs o with
      | none => rfl
      | some u => rw [q] at e; exact (e rfl).elim
  · rw [keys_put, List.mem_append, List.mem_singleton]
    by_cases e : (valV kvs o).isSome = true
    · rw [if_pos e, d.mem]
      constructor
      · exact .inl
      · rintro (h | h)
        · exact h
        · subst h
          obtain ⟨u, hu⟩ := Option.isSome_iff_exists.mp e
          exact (d.mem _).mp (valV_in hu)
    · rw [if_neg e, List.mem_append, List.mem_singleton, d.mem]
theorem DI.some_of {fm : Nat} {kvs : List (Out × V)} {outs : List Out} (d : DI fm kvs outs) {o : Out} (h : o ∈ outs) : ∃ v, valV kvs o = some v := by
  cases q : valV kvs o with
  | some v => exact ⟨v, rfl⟩
  | none => exact (valV_not q ((d.mem o).mpr h)).elim
theorem DI.none_of {fm : Nat} {kvs : List (Out × V)} {outs : List Out} (d : DI fm kvs outs) {o : Out} (h : valV kvs o = none) : ¬ o ∈ outs := fun m => valV_not h ((d.mem o).mpr m)
theorem nodup_le {α : Type} [DecidableEq α] : ∀ {l m : List α}, l.Nodup → (∀ x ∈ l, x ∈ m) → l.length ≤ m.length
  | [], m, _, _ => Nat.zero_le _
  | a :: r, m, h, hs => by
    obtain ⟨n1, n2⟩ := List.nodup_cons.mp h
    have hm := hs a List.mem_cons_self
    have ih := nodup_le (l := r) (m := m.erase a) n2 fun x hx => (List.mem_erase_of_ne fun e => n1 (by rw [← e]; exact hx)).mpr (hs x (List.mem_cons_of_mem _ hx))
    rw [List.length_erase_of_mem hm] at ih
    have p : 0 < m.length := List.length_pos_of_mem hm
    rw [List.length_cons]
    omega
theorem DI.len {fm : Nat} {kvs : List (Out × V)} {outs : List Out} (d : DI fm kvs outs) : kvs.length ≤ outs.length := by
  have q := nodup_le d.nd fun o h => (d.mem o).mp h
  rw [List.length_map] at q
  exact q
/-! ### promises -/
def spAre (K : PySem.W.Frag) : Sp := fun vs H Q _ => ∃ (l : Addr) (xs : List V) (cs : List Nat) (n : Nat), vs = [.ref l] ∧ SqL K H l xs ∧ FrAll K H n xs cs ∧ 0 < n ∧ n ≤ 1800 ∧ cs.sum = n ∧ xs.length ≤ 100 ∧
  ∀ H', Same H H' → Q (.bl true) H'
def spLawFrom (K : PySem.W.Frag) : Sp := fun vs H Q _ => ∃ (l : Addr) (xs : List V) (rs : List (Out × Nat)) (n fm : Nat), vs = [.ref l] ∧ SqL K H l xs ∧ RowsV K H n xs rs ∧ 0 < n ∧ n ≤ 1800 ∧ (rs.map (·.2)).sum = n ∧ rs.length ≤ 50 ∧
  (∀ q ∈ rs, q.1.form = fm ∧ 0 < q.2) ∧
  ∀ (r : Addr) (H' : Hp) (ys : List V) (os : List Out), Same H H' → H' r = some (.lst ys) → os.Pairwise Out.lt → (∀ o, o ∈ os ↔ o ∈ rs.map (·.1)) → RowsV K H' n ys (os.map fun o => (o, tot o rs)) → Q (.ref r) H'
section
variable {P : Program} {w : World} {K : PySem.W.Frag} {mg : Str → Option Value} {base : Heap} {aN aO : Addr}
theorem scSumOf : FnScope ["fractions", "total", "fraction"] ["fractions"] (defScope sSumOf) := ⟨rfl, rfl, rfl, by decide +kernel, rfl, by decide +kernel, by decide +kernel⟩
theorem ok_sumOf {f : Addr} {fd : FuncData} (F : Fun K "sum_of" "sum_of" sSumOf f fd) (hP : Has P w K mg base "plus" 2 ["a", "b"] (spPlus K)) (C : Cst K mg aN aO) : FnOk P w K mg base CX0 3 f fd ["fractions"] (spSumOf K) := by
  obtain ⟨fP, dP, mP, GP, bP, kP⟩ := hP
  refine F.ok scSumOf (fun vs H Q E h => ?_) (fun cdv A outer s H vs Q E hr h => ?_)
  · obtain ⟨l, xs, cs, n, rfl, _⟩ := h
    rfl
  obtain ⟨l, xs, cs, n, rfl, hl, hf, hn, hn2, hs, q⟩ := h
  refine ⟨_, pss_cons (ps_set (i := 1) scSumOf.nd rfl (Or.inl rfl) (pe_glob (v := .ref aN) rfl C.gN rfl))
    (pss_cons (ps_for PassesOwn.never rfl (pi_list (pv 0)) (pg_name (i := 2) scSumOf.nd rfl (Or.inl rfl))
      (pss_one (ps_set (i := 1) scSumOf.nd rfl (Or.inl rfl) (pe_call GP hr rfl mP kP bP .nil pass0 (pa_cons (pv 1) (pa_cons (pv 2) pa_nil))))))
    (pss_one (ps_ret (pv 1)))), ?_⟩
  refine ⟨_, rfl, l, rfl, ⟨_, hl⟩, for_list (K := K) (a := l) (xs := xs) (fun i σ H' => ∃ (v : V) (o : Option V), σ = [some (.ref l), some v, o] ∧ Same H H' ∧ IsFr K H' v (fr (cs.take i).sum n))
    ⟨.ref aN, none, rfl, Same.refl H, by rw [List.take_zero]; show IsFr K H _ (fr 0 n); rw [fr_zero hn]; exact C.frN H⟩ (fun i σ H' _ ⟨_, _, _, sm, _⟩ => sm.seq hl) ?_ ?_⟩
  · rintro i x σ H' hi ⟨v, o, rfl, sm, iv⟩
    obtain ⟨c, hc, ic⟩ := paired_get hf hi
    have e := take_next hc
    have s1 := sum_take_le cs (i + 1)
    rw [e, List.sum_append] at s1
    have s2 : ([c] : List Nat).sum = c := by simp
    rw [s2] at s1
    refine ⟨_, rfl, _, rfl, v, x, _, c, n, rfl, iv, ic.same sm, hn, hn2, by omega, by omega, fun t ht => ?_⟩
    refine ⟨.ref t, some x, rfl, sm.trans (Same.new ht _), ?_⟩
    rw [e, List.sum_append, s2]
    exact isFr_new upd_same
  · rintro σ H' ⟨v, o, rfl, sm, iv⟩
    have e : (cs.take xs.length).sum = cs.sum := by
      rw [List.take_of_length_le (by rw [Paired.length hf]; exact Nat.le_refl _)]
    rw [e] at iv
    exact ⟨_, rfl, q v H' sm iv⟩
theorem scAre : FnScope ["fractions", "fraction"] ["fractions"] (defScope sAre) := ⟨rfl, rfl, rfl, by decide +kernel, rfl, by decide +kernel, by decide +kernel⟩
theorem eqv_one : PyData.eqv (.tuple [.int ((1 : Nat) : Int), .int ((1 : Nat) : Int)]) (.tuple [.int ((1 : Nat) : Int), .int ((1 : Nat) : Int)]) = true := by decide
theorem dp_fr {K : PySem.W.Frag} {H : Hp} {v : V} {p : Nat × Nat} (h : IsFr K H v p) : Dp K H v (.tuple [.int (p.1 : Nat), .int (p.2 : Nat)]) := by
  obtain ⟨a, rfl, h⟩ := h
  exact .tup h (.cons (.int _) (.cons (.int _) .nil))
theorem ok_are {f : Addr} {fd : FuncData} (F : Fun K "are_chances" "are_chances" sAre f fd) (hL : Has P w K mg base "less" 1 ["a", "b"] (spLess K)) (hS : Has P w K mg base "sum_of" 3 ["fractions"] (spSumOf K)) (C : Cst K mg aN aO)
    (gA : mg "any" = none) : FnOk P w K mg base CX0 4 f fd ["fractions"] (spAre K) := by
  obtain ⟨fL, dL, mL, GL, bL, kL⟩ := hL
  obtain ⟨fS, dS, mS, GS, bS, kS⟩ := hS
  refine F.ok scAre (fun vs H Q E h => ?_) (fun cdv A outer s H vs Q E hr h => ?_)
  · obtain ⟨l, xs, cs, n, rfl, _⟩ := h
    rfl
  obtain ⟨l, xs, cs, n, rfl, hl, hf, hn, hn2, hs, hx, q⟩ := h
  have hr1 : Room 1 _ := hr.mono (by decide)
  refine ⟨_, pss_one (ps_ret (pe_and (pe_not (pe_callB (cr_any rfl) (by rfl) gA (by decide +kernel) (pa_cons
      (pe_lc (own := [("fraction", 1)]) (g := gName 1) (tt := tYes) rfl scAre.nd (pi_list (pv 0)) (blkOk_by (N := ["fractions", "fraction"]) (sc := defScope sAre) (by decide +kernel)) (fun _ _ _ _ _ => pg_name (i := 1) scAre.nd rfl (Or.inl rfl)) (fun _ _ _ _ _ => pts_nil)
        (fun _ _ _ _ _ => pe_call GL hr1 rfl mL kL bL .nil pass0 (pa_cons (pv 1) (pa_cons (pe_glob (v := .ref aN) rfl C.gN rfl) pa_nil)))) pa_nil)))
    (pe_one (pe_cmpR (op_eqD hr.units) (pe_call GS hr rfl mS kS bS .nil pass0 (pa_cons (pv 0) pa_nil)) (pe_glob (v := .ref aO) rfl C.gO rfl) (nomark _))))), ?_⟩
  refine ⟨_, rfl, l, rfl, ⟨_, hl⟩, fun D hD => ?_⟩
  refine lc_list (K := K) (a := l) (xs := xs) (fun i H' => Same H H' ∧ H' D = some (.lst ((List.replicate i false).map V.bl))) ⟨Same.new hD _, upd_same⟩ (fun i H' _ ⟨sm, _⟩ => sm.seq hl) ?_ ?_
  · rintro i x H' hi ⟨sm, hD'⟩
    obtain ⟨c, hc, ic⟩ := paired_get hf hi
    have l1 := fr_le (a := c) (b := n)
    have s0 := sum_take_le cs (i + 1)
    rw [take_next hc, List.sum_append] at s0
    have s2 : ([c] : List Nat).sum = c := by simp
    rw [s2] at s0
    refine ⟨rfl, ?_⟩
    refine ⟨_, rfl, x, _, _, rfl, ic.same sm, C.frN H', by omega, by omega, ?_⟩
    refine ⟨_, hD', ?_, Same.put sm hD _, ?_⟩
    · rw [List.length_map, List.length_replicate]
      have := lt_of_get hi
      exact small1000 (by omega)
    · rw [upd_same, List.replicate_succ', List.map_append]
      rfl
  · rintro H' ⟨sm, hD'⟩
    refine ⟨D, _, rfl, SqL.of hD', _, rfl, ?_⟩
    have e : (List.replicate xs.length false).any id = false := by
      rw [List.any_eq_false]
      intro b hb
      rw [(List.mem_replicate.mp hb).2]
      exact Bool.false_ne_true
    rw [e]
    refine ⟨_, rfl, iteT ?_⟩
    refine ⟨_, rfl, l, xs, cs, n, rfl, sm.seq hl, hf.same sm, hn, hn2, by omega, fun v H2 s2 iv => ?_⟩
    rw [hs, fr_self hn] at iv
    refine ⟨_, _, dp_fr iv, dp_fr (C.frO H2), by decide +kernel, by decide +kernel, ?_⟩
    rw [eqv_one]
    exact q H2 (sm.trans s2)
end
end Fd
/-! law_from. -/
namespace Fd
open PySem PySem.Spec PyProof.Rows L2
section
variable {P : Program} {w : World} {K : PySem.W.Frag} {mg : Str → Option Value} {base : Heap} {aN aO : Addr}
theorem scLawFrom : FnScope ["rows", "chance", "sums", "outcome", "_"] ["rows"] (defScope sLawFrom) := ⟨rfl, rfl, rfl, by decide +kernel, rfl, by decide +kernel, by decide +kernel⟩
theorem rows_len {K : PySem.W.Frag} {H : Hp} {n : Nat} {xs : List V} {rs : List (Out × Nat)} (h : RowsV K H n xs rs) : xs.length = rs.length := Paired.length h
theorem eqv_nothing (a b : Nat) (h : 0 < a) : PyData.eqv (.tuple [.int (a : Nat), .int (b : Nat)]) (.tuple [.int ((0 : Nat) : Int), .int ((1 : Nat) : Int)]) = false := by
  have e : (((a : Nat) : Int) == ((0 : Nat) : Int)) = false := by
    rw [beq_eq_false_iff_ne]
    omega
  show (PyData.eqv (.int (a : Nat)) (.int ((0 : Nat) : Int)) && PyData.eqvAll [.int (b : Nat)] [.int ((1 : Nat) : Int)]) = false
  have e2 : PyData.eqv (.int (a : Nat)) (.int ((0 : Nat) : Int)) = false := by
    rw [PyData.eqv]
    exact e
  rw [e2, Bool.false_and]
theorem shaped_fr (a b : Nat) : SeqAt.shaped (.tuple [.int (a : Nat), .int (b : Nat)]) = true := by
  unfold SeqAt.shaped
  rw [Bool.and_eq_true]
  exact ⟨rfl, rfl⟩
theorem ok_lawFrom {f : Addr} {fd : FuncData} (F : Fun K "law_from" "law_from" sLawFrom f fd) (hA : Has P w K mg base "are_chances" 4 ["fractions"] (spAre K)) (hP : Has P w K mg base "plus" 2 ["a", "b"] (spPlus K)) (C : Cst K mg aN aO)
    (gS : mg "sorted" = none) : FnOk P w K mg base CX0 5 f fd ["rows"] (spLawFrom K) := by
  obtain ⟨fA, dA, mA, GA, bA, kA⟩ := hA
  obtain ⟨fP, dP, mP, GP, bP, kP⟩ := hP
  refine F.ok scLawFrom (fun vs H Q E h => ?_) (fun cdv A outer s H vs Q E hr h => ?_)
  · obtain ⟨l, xs, rs, n, fm, rfl, _⟩ := h
    rfl
  obtain ⟨l, xs, rs, n, fm, rfl, hl, hf, hn, hn2, hs, hx, hq, q⟩ := h
  have hr2 : Room 2 _ := hr.mono (by decide)
  have hu := hu_of hr
  have xl := rows_len hf
  refine ⟨_, pss_cons (ps_if (pt_not (pt_val (pe_call GA hr rfl mA kA bA .nil pass0 (pa_cons
        (pe_lc (own := [("_", 4), ("chance", 1)]) (g := gTup K 2 (gCons (gName 4) (gCons (gName 1) gNil))) (tt := tYes) rfl scLawFrom.nd (pi_list (pv 0)) (blkOk_by (N := ["rows", "chance", "sums", "outcome", "_"]) (sc := defScope sLawFrom) (by decide +kernel))
          (fun _ _ _ _ _ => pg_tup rfl (pgs_cons (pg_name (i := 4) scLawFrom.nd rfl (Or.inl rfl)) (pgs_cons (pg_name (i := 1) scLawFrom.nd rfl (Or.inl rfl)) pgs_nil))) (fun _ _ _ _ _ => pts_nil)
          (fun _ _ _ _ _ => pv 1)) pa_nil)))) pss_never pss_nil)
    (pss_cons (ps_set (i := 2) scLawFrom.nd rfl (Or.inr rfl) pe_dnewO)
    (pss_cons (ps_for PassesOwn.never rfl (pi_list (pv 0)) (pg_tup rfl (pgs_cons (pg_name (i := 3) scLawFrom.nd rfl (Or.inl rfl)) (pgs_cons (pg_name (i := 1) scLawFrom.nd rfl (Or.inl rfl)) pgs_nil)))
      (pss_one (ps_dput hu (pv 2) (pv 3) (pe_call GP hr2 rfl mP kP bP .nil pass0 (pa_cons (pe_dget2 hu (pv 2) (pv 3) (pe_glob (v := .ref aN) rfl C.gN rfl) ⟨rfl, rfl, rfl, rfl⟩) (pa_cons (pv 1) pa_nil))) rfl)))
    (pss_one (ps_ret (pe_lc (own := [("outcome", 3)]) (g := gName 3) (tt := tTest (tOp (rNeD K) (tDGet (tVar 2) (tVar 3)) (tC (.ref aN)))) rfl scLawFrom.nd (pi_list (pe_callB (cr_sortDO rfl) (by rfl) gS (by decide +kernel) (pa_cons (pv 2) pa_nil)))
        (blkOk_by (N := ["rows", "chance", "sums", "outcome", "_"]) (sc := defScope sLawFrom) (by decide +kernel)) (fun _ _ _ _ _ => pg_name (i := 3) scLawFrom.nd rfl (Or.inl rfl))
        (fun _ _ _ _ _ => pts_one (pt_cmpR (op_neD hr.units) (pe_dget hu (pv 2) (pv 3) (fun _ _ => rfl)) (pe_glob (v := .ref aN) rfl C.gN rfl) (nomark _)))
        (fun _ _ _ _ _ => pe_tup (pa_cons (pv 3) (pa_cons (pe_dget hu (pv 2) (pv 3) (fun _ _ => rfl)) pa_nil)))))))), ?_⟩
  -- if not are_chances([chance for _, chance in rows])
  refine ⟨_, rfl, l, rfl, ⟨_, hl⟩, fun D hD => ?_⟩
  refine lc_list (K := K) (a := l) (xs := xs) (fun i H' => Same H H' ∧ ∃ cs : List V, H' D = some (.lst cs) ∧ cs.length = i ∧ FrAll K H' n cs ((rs.map (·.2)).take i)) ⟨Same.new hD _, [], upd_same, rfl, .nil⟩ (fun i H' _ ⟨sm, _⟩ => sm.seq hl) ?_ ?_
  · rintro i x H' hi ⟨sm, cs, hD', hc, hfr⟩
    obtain ⟨r, hri, t, u, c, rfl, ht, ho, hcf⟩ := paired_get hf hi
    have ei := lt_of_get hi
    refine ⟨t, _, rfl, SqT.of (sm _ _ ht), rfl, u, _, rfl, c, _, rfl, rfl, ?_⟩
    refine ⟨rfl, ?_⟩
    have sp := Same.put sm hD (HO.lst (cs ++ [c]))
    have hrm : (rs.map (·.2))[i]? = some r.2 := by rw [List.getElem?_map, hri]; rfl
    have nn : H' D ≠ none := by rw [hD']; exact fun z => by cases z
    refine ⟨_, rfl, cs, hD', small1000 (by omega), sp, cs ++ [c], upd_same, by rw [List.length_append, hc]; rfl, ?_⟩
    rw [take_next hrm]
    refine paired_snoc (Paired.mapP hfr fun v c' z => z.keep (Keep.put (S := [D]) (List.mem_singleton.mpr rfl) hD' trivial _)) ?_
    exact hcf.same sp
  rintro H1 ⟨sm, cs, hD', hc, hfr⟩
  have et : (rs.map (·.2)).take xs.length = rs.map (·.2) := List.take_of_length_le (by rw [List.length_map, xl]; exact Nat.le_refl _)
  rw [et] at hfr
  refine ⟨D, cs, rs.map (·.2), n, rfl, SqL.of hD', hfr, hn, hn2, hs, by omega, fun H2 s12 => ⟨_, rfl, ?_⟩⟩
  refine iteF ?_
  -- sums = {}
  refine ⟨fm, fun d hd => ?_⟩
  have s2 : Same H H2 := sm.trans s12
  have d0 : H d = none := s2.free hd
  have s3 : Same H (upd H2 d (dictO fm [])) := Same.put s2 d0 _
  refine ⟨_, rfl, l, rfl, ⟨_, s3.seq hl⟩, for_list (K := K) (a := l) (xs := xs) (fun i σ H' => ∃ (kvs : List (Out × V)) (a b : Option V), σ = [some (.ref l), a, some (.ref d), b, none] ∧ Same H H' ∧ H' d = some (dictO fm kvs) ∧ DI fm kvs ((rs.take i).map (·.1)) ∧
      ∀ o v, valV kvs o = some v → IsFr K H' v (fr (tot o (rs.take i)) n))
    ⟨[], _, _, rfl, s3, upd_same, DI.nil fm, fun o v z => by cases z⟩ (fun i σ H' _ ⟨_, _, _, _, sm, _⟩ => sm.seq hl) ?_ ?_⟩
  · rintro i x σ H' hi ⟨kvs, a, b, rfl, s4, hd4, di, hv⟩
    obtain ⟨r, hri, t, u, c, rfl, ht, ho, hcf⟩ := paired_get hf hi
    have fr_o : r.1.form = fm := (hq r (List.mem_of_getElem? hri)).1
    have ho4 := ho.same s4
    have etk := take_next hri
    have stk : tot r.1 (rs.take i) + r.2 ≤ n := by
      have z1 := tot_le r.1 (rs.take i)
      have z2 := sum_take_le (rs.map (·.2)) (i + 1)
      have hrm : (rs.map (·.2))[i]? = some r.2 := by rw [List.getElem?_map, hri]; rfl
      rw [take_next hrm, List.sum_append, hs, ← List.map_take] at z2
      have z3 : ([r.2] : List Nat).sum = r.2 := by simp
      rw [z3] at z2
      omega
    have il := lt_of_get hi
    have dl := di.len
    rw [List.length_map, List.length_take] at dl
    -- for outcome, chance in rows: sums[outcome] = plus(sums.get(outcome, NOTHING), chance)
    have hold : IsFr K H' ((valV kvs r.1).getD (.ref aN)) (fr (tot r.1 (rs.take i)) n) := by
      cases e : valV kvs r.1 with
      | some v => exact hv r.1 v e
      | none =>
        have z := tot_zero (di.none_of e)
        rw [z, fr_zero hn]
        exact C.frN H'
    refine ⟨t, _, rfl, SqT.of (s4 _ _ ht), rfl, u, _, rfl, c, _, rfl, rfl, ?_⟩
    refine ⟨_, rfl, d, rfl, isDO hd4, _, rfl, _, dGetO hd4 di.form fr_o ho4, _, rfl, ?_⟩
    refine ⟨_, c, tot r.1 (rs.take i), r.2, n, rfl, hold, hcf.same s4, hn, hn2, by omega, by omega, fun t2 ht2 => ?_⟩
    have t0 : H t2 = none := s4.free ht2
    have hd5 : (upd H' t2 (.tup (frL (fr (tot r.1 (rs.take i) + r.2) n)))) d = some (dictO fm kvs) := by rw [upd_ne (ne_of_none hd4 ht2)]; exact hd4
    have k5 : Keep [] H' (upd H' t2 (.tup (frL (fr (tot r.1 (rs.take i) + r.2) n)))) := Keep.new ht2 _
    refine ⟨_, rfl, _, rfl, d, _, rfl, dPutO (x := .ref t2) hd5 di.form fr_o (ho4.keep k5) (small1000 (by omega)), ?_⟩
    have k6 := Keep.put (S := [d]) (List.mem_singleton.mpr rfl) hd5 mu_dictO (dictO fm (putK kvs r.1 (.ref t2)))
    refine ⟨putK kvs r.1 (.ref t2), _, _, rfl, Same.put (Same.put s4 t0 _) d0 _, upd_same, ?_, fun o v z => ?_⟩
    · rw [etk, List.map_append]
      exact di.put fr_o _
    · rw [valV_put] at z
      rw [etk, tot_snoc]
      by_cases e : o = r.1
      · rw [if_pos e] at z
        cases z
        rw [e, if_pos rfl]
        exact IsFr.keep k6 (isFr_new upd_same)
      · rw [if_neg e] at z
        rw [if_neg fun z => e z.symm, Nat.add_zero]
        exact ((hv o v z).keep k5).keep k6
  rintro σ H4 ⟨kvs, a, b, rfl, s4, hd4, di, hv⟩
  have etr : rs.take xs.length = rs := List.take_of_length_le (by rw [xl]; exact Nat.le_refl _)
  rw [etr] at di hv
  have dl := di.len
  rw [List.length_map] at dl
  -- return [(outcome, sums[outcome]) for outcome in sorted(sums) if sums[outcome] != NOTHING]
  refine ⟨_, rfl, d, kvs, fm, rfl, hd4, di.form, di.nd, by omega, fun os ys p pm pw hov hp => ?_⟩
  have mem : ∀ o, o ∈ os ↔ o ∈ rs.map (·.1) := fun o => (pm.mem_iff).trans (di.mem o)
  have ol : ys.length ≤ 50 := by
    have z := pm.length_eq
    rw [List.length_map] at z
    have z2 := OutVs.len hov
    omega
  have s5 : Same H (upd H4 p (.lst ys)) := Same.put s4 (s4.free hp) _
  have k5 : Keep [] H4 (upd H4 p (.lst ys)) := Keep.new hp _
  refine ⟨p, rfl, ⟨ys, SqL.of upd_same⟩, fun D2 hD2 => ?_⟩
  have np : p ≠ D2 := ne_of_none upd_same hD2
  have D20 : H4 D2 = none := by
    rw [upd_ne (Ne.symm np)] at hD2
    exact hD2
  have nd2 : d ≠ D2 := ne_of_none hd4 D20
  refine lc_list (K := K) (a := p) (xs := ys) (fun i H' => Same (upd H4 p (.lst ys)) H' ∧ ∃ res : List V, H' D2 = some (.lst res) ∧ res.length = i ∧ RowsV K H' n res ((os.take i).map fun o => (o, tot o rs)))
    ⟨Same.new hD2 _, [], upd_same, rfl, .nil⟩ (fun i H' _ ⟨sm, _⟩ => SqL.of (sm _ _ upd_same)) ?_ ?_
  · rintro i y H' hi ⟨s6, res, hr6, rl, rv⟩
    obtain ⟨o, hoi, hoy⟩ := paired_get2 hov hi
    have om : o ∈ os := List.mem_of_getElem? hoi
    have or_ := (mem o).mp om
    obtain ⟨v, hvo⟩ := di.some_of or_
    have fo : o.form = fm := by
      obtain ⟨r, hr, e⟩ := List.mem_map.mp or_
      rw [← e]; exact (hq r hr).1
    have tp : 0 < tot o rs := tot_pos (fun r hr => (hq r hr).2) or_
    have s46 : Same H4 H' := (Keep.same k5).trans s6
    have hd6 : H' d = some (dictO fm kvs) := s46 _ _ hd4
    have g := dGetO hd6 di.form fo (hoy.same s46)
    rw [hvo] at g
    have fv := (hv o v hvo).same s46
    have npos := fr_num_pos (b := n) tp
    refine ⟨rfl, _, rfl, _, rfl, d, v, rfl, g, _, _, dp_fr fv, dp_fr (C.frN H'), shaped_fr _ _, shaped_fr _ _, _, rfl, ?_⟩
    rw [eqv_nothing _ _ npos]
    refine iteT ?_
    refine ⟨_, rfl, _, rfl, _, rfl, d, v, rfl, g, (by show 2 ≤ sizeLine; decide), fun t ht => ?_⟩
    have nt : D2 ≠ t := ne_of_none hr6 ht
    have hr7 : (upd H' t (.tup [y, v])) D2 = some (.lst res) := by rw [upd_ne nt]; exact hr6
    have k7 : Keep [] H' (upd H' t (.tup [y, v])) := Keep.new ht _
    have k8 := Keep.put (S := [D2]) (List.mem_singleton.mpr rfl) hr7 trivial (HO.lst (res ++ [.ref t]))
    have il := lt_of_get hi
    refine ⟨res, hr7, small1000 (by omega), Same.put (s6.trans (Keep.same k7)) hD2 _, res ++ [.ref t], upd_same, by rw [List.length_append, rl]; rfl, ?_⟩
    rw [take_next hoi, List.map_append]
    refine paired_snoc ((rv.keep k7).keep k8) ?_
    refine ⟨t, y, v, rfl, ?_, ((hoy.same s46).keep k7).keep k8, (fv.keep k7).keep k8⟩
    exact k8.tup _ _ upd_same
  · rintro H' ⟨s6, res, hr6, rl, rv⟩
    have et2 : os.take ys.length = os := List.take_of_length_le (by rw [OutVs.len hov]; exact Nat.le_refl _)
    rw [et2] at rv
    exact q D2 H' res os (s5.trans s6) hr6 pw mem rv
end
end Fd
/-! The explorer: its fields, what it is in the heap, advance. -/
namespace Fd
open PySem PySem.Spec PyProof.Rows L2
theorem lk_yes {k : Str} {v : V} {r : List (Str × V)} : ((k, v) :: r).lookup k = some v := by
  rw [List.lookup_cons, beq_self_eq_true]
theorem lk_no {a k : Str} {v : V} {r : List (Str × V)} (h : (a == k) = false) : ((k, v) :: r).lookup a = r.lookup a := by
  rw [List.lookup_cons, h]
theorem pf_nil {f : Str} {v : V} : putF f v [] = [(f, v)] := rfl
theorem pf_yes {k : Str} {v u : V} {r : List (Str × V)} : putF k v ((k, u) :: r) = (k, v) :: r := by
  unfold putF
  rw [if_pos rfl]
theorem pf_no {a k : Str} {v u : V} {r : List (Str × V)} (h : (a == k) = false) : putF a v ((k, u) :: r) = (k, u) :: putF a v r := by
  have h2 : ¬ k = a := fun e => by rw [e, beq_self_eq_true] at h; cases h
  show (if k = a then (k, v) :: r else (k, u) :: putF a v r) = _
  rw [if_neg h2]
def xf (pl : Addr) (a : Nat) (c : V) (op ov : Bool) (m : Nat) (rl : Addr) : List (Str × V) := [("path", V.ref pl), ("at", V.int (a : Nat)), ("chance", c), ("is_open", V.bl op), ("is_over", V.bl ov), ("many", V.int (m : Nat)), ("rows", V.ref rl)]
theorem xf_path (pl : Addr) (a : Nat) (c : V) (op ov : Bool) (m : Nat) (rl : Addr) : (xf pl a c op ov m rl).lookup ("path" : Str) = some (V.ref pl) := by
  unfold xf
  rw [lk_yes]
theorem xf_at (pl : Addr) (a : Nat) (c : V) (op ov : Bool) (m : Nat) (rl : Addr) : (xf pl a c op ov m rl).lookup ("at" : Str) = some (V.int (a : Nat)) := by
  unfold xf
  rw [lk_no (by decide +kernel), lk_yes]
theorem xf_chance (pl : Addr) (a : Nat) (c : V) (op ov : Bool) (m : Nat) (rl : Addr) : (xf pl a c op ov m rl).lookup ("chance" : Str) = some (c) := by
  unfold xf
  rw [lk_no (by decide +kernel), lk_no (by decide +kernel), lk_yes]
theorem xf_is_open (pl : Addr) (a : Nat) (c : V) (op ov : Bool) (m : Nat) (rl : Addr) : (xf pl a c op ov m rl).lookup ("is_open" : Str) = some (V.bl op) := by
  unfold xf
  rw [lk_no (by decide +kernel), lk_no (by decide +kernel), lk_no (by decide +kernel), lk_yes]
theorem xf_is_over (pl : Addr) (a : Nat) (c : V) (op ov : Bool) (m : Nat) (rl : Addr) : (xf pl a c op ov m rl).lookup ("is_over" : Str) = some (V.bl ov) := by
  unfold xf
  rw [lk_no (by decide +kernel), lk_no (by decide +kernel), lk_no (by decide +kernel), lk_no (by decide +kernel), lk_yes]
theorem xf_many (pl : Addr) (a : Nat) (c : V) (op ov : Bool) (m : Nat) (rl : Addr) : (xf pl a c op ov m rl).lookup ("many" : Str) = some (V.int (m : Nat)) := by
  unfold xf
  rw [lk_no (by decide +kernel), lk_no (by decide +kernel), lk_no (by decide +kernel), lk_no (by decide +kernel), lk_no (by decide +kernel), lk_yes]
theorem xf_rows (pl : Addr) (a : Nat) (c : V) (op ov : Bool) (m : Nat) (rl : Addr) : (xf pl a c op ov m rl).lookup ("rows" : Str) = some (V.ref rl) := by
  unfold xf
  rw [lk_no (by decide +kernel), lk_no (by decide +kernel), lk_no (by decide +kernel), lk_no (by decide +kernel), lk_no (by decide +kernel), lk_no (by decide +kernel), lk_yes]
theorem xf_put_at (pl : Addr) (a : Nat) (c : V) (op ov : Bool) (m : Nat) (rl : Addr) (a' : Nat) : putF "at" (V.int (a' : Nat)) (xf pl a c op ov m rl) = xf pl a' c op ov m rl := by
  unfold xf
  rw [pf_no (by decide +kernel), pf_yes]
theorem xf_put_chance (pl : Addr) (a : Nat) (c : V) (op ov : Bool) (m : Nat) (rl : Addr) (c' : V) : putF "chance" (c') (xf pl a c op ov m rl) = xf pl a c' op ov m rl := by
  unfold xf
  rw [pf_no (by decide +kernel), pf_no (by decide +kernel), pf_yes]
theorem xf_put_is_open (pl : Addr) (a : Nat) (c : V) (op ov : Bool) (m : Nat) (rl : Addr) (op' : Bool) : putF "is_open" (V.bl op') (xf pl a c op ov m rl) = xf pl a c op' ov m rl := by
  unfold xf
  rw [pf_no (by decide +kernel), pf_no (by decide +kernel), pf_no (by decide +kernel), pf_yes]
theorem xf_put_is_over (pl : Addr) (a : Nat) (c : V) (op ov : Bool) (m : Nat) (rl : Addr) (ov' : Bool) : putF "is_over" (V.bl ov') (xf pl a c op ov m rl) = xf pl a c op ov' m rl := by
  unfold xf
  rw [pf_no (by decide +kernel), pf_no (by decide +kernel), pf_no (by decide +kernel), pf_no (by decide +kernel), pf_yes]
theorem xf_put_many (pl : Addr) (a : Nat) (c : V) (op ov : Bool) (m : Nat) (rl : Addr) (m' : Nat) : putF "many" (V.int (m' : Nat)) (xf pl a c op ov m rl) = xf pl a c op ov m' rl := by
  unfold xf
  rw [pf_no (by decide +kernel), pf_no (by decide +kernel), pf_no (by decide +kernel), pf_no (by decide +kernel), pf_no (by decide +kernel), pf_yes]
theorem xf_no_advance (pl : Addr) (a : Nat) (c : V) (op ov : Bool) (m : Nat) (rl : Addr) : (xf pl a c op ov m rl).lookup ("advance" : Str) = none := by
  unfold xf
  rw [lk_no (by decide +kernel), lk_no (by decide +kernel), lk_no (by decide +kernel), lk_no (by decide +kernel), lk_no (by decide +kernel), lk_no (by decide +kernel), lk_no (by decide +kernel)]
  rfl
theorem xf_no_begin (pl : Addr) (a : Nat) (c : V) (op ov : Bool) (m : Nat) (rl : Addr) : (xf pl a c op ov m rl).lookup ("begin" : Str) = none := by
  unfold xf
  rw [lk_no (by decide +kernel), lk_no (by decide +kernel), lk_no (by decide +kernel), lk_no (by decide +kernel), lk_no (by decide +kernel), lk_no (by decide +kernel), lk_no (by decide +kernel)]
  rfl
theorem xf_no_pick (pl : Addr) (a : Nat) (c : V) (op ov : Bool) (m : Nat) (rl : Addr) : (xf pl a c op ov m rl).lookup ("pick" : Str) = none := by
  unfold xf
  rw [lk_no (by decide +kernel), lk_no (by decide +kernel), lk_no (by decide +kernel), lk_no (by decide +kernel), lk_no (by decide +kernel), lk_no (by decide +kernel), lk_no (by decide +kernel)]
  rfl
theorem xf_no_end (pl : Addr) (a : Nat) (c : V) (op ov : Bool) (m : Nat) (rl : Addr) : (xf pl a c op ov m rl).lookup ("end" : Str) = none := by
  unfold xf
  rw [lk_no (by decide +kernel), lk_no (by decide +kernel), lk_no (by decide +kernel), lk_no (by decide +kernel), lk_no (by decide +kernel), lk_no (by decide +kernel), lk_no (by decide +kernel)]
  rfl
theorem xf_no_gathered (pl : Addr) (a : Nat) (c : V) (op ov : Bool) (m : Nat) (rl : Addr) : (xf pl a c op ov m rl).lookup ("gathered" : Str) = none := by
  unfold xf
  rw [lk_no (by decide +kernel), lk_no (by decide +kernel), lk_no (by decide +kernel), lk_no (by decide +kernel), lk_no (by decide +kernel), lk_no (by decide +kernel), lk_no (by decide +kernel)]
  rfl
theorem xf_init (pl : Addr) (c : V) (rl : Addr) : (putF "rows" (V.ref rl) (putF "many" (V.int 0) (putF "is_over" (V.bl false) (putF "is_open" (V.bl false) (putF "chance" c (putF "at" (V.int 0) (putF "path" (V.ref pl) []))))))) = xf pl 0 c false false 0 rl := by
  rw [pf_nil (f := "path"), pf_no (a := "at") (k := "path") (by decide +kernel), pf_nil (f := "at"), pf_no (a := "chance") (k := "path") (by decide +kernel), pf_no (a := "chance") (k := "at") (by decide +kernel), pf_nil (f := "chance"), pf_no (a := "is_open") (k := "path") (by decide +kernel), pf_no (a := "is_open") (k := "at") (by decide +kernel), pf_no (a := "is_open") (k := "chance") (by decide +kernel), pf_nil (f := "is_open"), pf_no (a := "is_over") (k := "path") (by decide +kernel), pf_no (a := "is_over") (k := "at") (by decide +kernel), pf_no (a := "is_over") (k := "chance") (by decide +kernel), pf_no (a := "is_over") (k := "is_open") (by decide +kernel), pf_nil (f := "is_over"), pf_no (a := "many") (k := "path") (by decide +kernel), pf_no (a := "many") (k := "at") (by decide +kernel), pf_no (a := "many") (k := "chance") (by decide +kernel), pf_no (a := "many") (k := "is_open") (by decide +kernel), pf_no (a := "many") (k := "is_over") (by decide +kernel), pf_nil (f := "many"), pf_no (a := "rows") (k := "path") (by decide +kernel), pf_no (a := "rows") (k := "at") (by decide +kernel), pf_no (a := "rows") (k := "chance") (by decide +kernel), pf_no (a := "rows") (k := "is_open") (by decide +kernel), pf_no (a := "rows") (k := "is_over") (by decide +kernel), pf_no (a := "rows") (k := "many") (by decide +kernel), pf_nil (f := "rows")]
  rfl
/-! ### what it is in the heap -/
structure XA where
  C : Addr
  x : Addr
  pl : Addr
  rl : Addr
  no : List Addr
def intsV (ws : List Nat) : List V := ws.map fun k => V.int (k : Nat)
theorem intsV_len (ws : List Nat) : (intsV ws).length = ws.length := List.length_map _
theorem intsV_get {ws : List Nat} {k : Nat} (h : k < ws.length) : (intsV ws)[k]? = some (.int ((ws.getD k 0 : Nat) : Int)) := by
  unfold intsV
  rw [List.getElem?_map, List.getD_eq_getElem?_getD, List.getElem?_eq_getElem h]
  rfl
theorem intsV_ints (ws : List Nat) : intsV ws = (ws.map fun k => ((k : Nat) : Int)).map V.int := by
  unfold intsV
  rw [List.map_map]
  rfl
theorem ints_sum : ∀ ws : List Nat, (ws.map fun k => ((k : Nat) : Int)).sum = ((ws.sum : Nat) : Int)
  | [] => rfl
  | a :: r => by rw [List.map_cons, List.sum_cons, List.sum_cons, ints_sum r, Int.natCast_add]
/-- a step of a path: a tuple of the number and a list of weights that is nobody's but the path's -/
def StepOk (H : Hp) (pl rl : Addr) (no : List Addr) (v : V) (s : Nat × List Nat) : Prop := ∃ t wl, v = .ref t ∧ H t = some (.tup [.int (s.1 : Nat), .ref wl]) ∧ H wl = some (.lst (intsV s.2)) ∧ wl ≠ pl ∧ wl ≠ rl ∧ wl ∉ no
theorem StepOk.keep {S : List Addr} {H H' : Hp} {pl rl : Addr} {no : List Addr} {v : V} {s : Nat × List Nat} (k : Keep S H H') (h : StepOk H pl rl no v s) (hS : ∀ b ∈ S, b = pl ∨ b = rl ∨ (∃ C dx fs, H b = some (.ins C dx fs)) ∨ H b = none) : StepOk H' pl rl no v s := by
  obtain ⟨t, wl, e, h1, h2, h3, h4, h5⟩ := h
  refine ⟨t, wl, e, k.tup _ _ h1, k.at_ _ _ (fun m => ?_) h2, h3, h4, h5⟩
  rcases hS wl m with q | q | ⟨_, _, _, q⟩ | q
  · exact h3 q
  · exact h4 q
  · rw [h2] at q; cases q
  · rw [h2] at q; cases q
abbrev StepsV (H : Hp) (pl rl : Addr) (no : List Addr) : List V → Path → Prop := Paired (StepOk H pl rl no)
theorem StepsV.keep {S : List Addr} {H H' : Hp} {pl rl : Addr} {no : List Addr} {ps : List V} {p : Path} (k : Keep S H H') (h : StepsV H pl rl no ps p) (hS : ∀ b ∈ S, b = pl ∨ b = rl ∨ (∃ C dx fs, H b = some (.ins C dx fs)) ∨ H b = none) : StepsV H' pl rl no ps p :=
  Paired.mapP h fun _ _ q => q.keep k hS
structure XOk (K : PySem.W.Frag) (H : Hp) (n : Nat) (e : XA) (op ov : Bool) (at_ : Nat) (c : Nat × Nat) (p : Path) (rows : List (Out × Nat)) : Prop where
  ex : ∃ (dx : Addr) (cv : V) (ps rv : List V), H e.x = some (.ins e.C dx (xf e.pl at_ cv op ov rows.length e.rl)) ∧ IsFr K H cv c ∧ H e.pl = some (.lst ps) ∧ StepsV H e.pl e.rl e.no ps p ∧ H e.rl = some (.lst rv) ∧ RowsV K H n rv rows
  ne : e.pl ≠ e.rl
/-- whatever keeps its three objects -/
theorem XOk.keep {K : PySem.W.Frag} {S : List Addr} {H H' : Hp} {n : Nat} {e : XA} {op ov : Bool} {at_ : Nat} {c : Nat × Nat} {p : Path} {rows : List (Out × Nat)} (k : Keep S H H') (h : XOk K H n e op ov at_ c p rows)
    (h1 : e.x ∉ S) (h2 : e.pl ∉ S) (h3 : e.rl ∉ S) (hS : ∀ b ∈ S, H b = none) : XOk K H' n e op ov at_ c p rows := by
  obtain ⟨⟨dx, cv, ps, rv, a1, a2, a3, a4, a5, a6⟩, ne⟩ := h
  exact ⟨⟨dx, cv, ps, rv, k.at_ _ _ h1 a1, a2.keep k, k.at_ _ _ h2 a3, a4.keep k fun b hb => .inr (.inr (.inr (hS b hb))), k.at_ _ _ h3 a5, a6.keep k⟩, ne⟩
theorem XOk.same {K : PySem.W.Frag} {H H' : Hp} {n : Nat} {e : XA} {op ov : Bool} {at_ : Nat} {c : Nat × Nat} {p : Path} {rows : List (Out × Nat)} (k : Same H H') (h : XOk K H n e op ov at_ c p rows) : XOk K H' n e op ov at_ c p rows :=
  h.keep (Keep.of_same (S := []) k) (by simp) (by simp) (by simp) (by simp)
structure XTxt (K : PySem.W.Frag) (C : Addr) : Prop where
  cl : Cls K C
  nP : NoAttr K C "path"
  nA : NoAttr K C "at"
  nC : NoAttr K C "chance"
  nO : NoAttr K C "is_open"
  nV : NoAttr K C "is_over"
  nM : NoAttr K C "many"
  nR : NoAttr K C "rows"
theorem xf_len (pl : Addr) (a : Nat) (c : V) (op ov : Bool) (m : Nat) (rl : Addr) : (xf pl a c op ov m rl).length < 1000 := by
  show 7 < 1000
  decide
/-! ### the first place that is not zero -/
theorem nxF_at {ws : List Nat} : ∀ {n a i : Nat}, i < n → (∀ j, j < i → pos ws (a + j) = false) → pos ws (a + i) = true → nxF ws a n = some (a + i)
  | 0, a, i, h, _, _ => by omega
  | n + 1, a, 0, _, _, hp => by
    have hp : pos ws a = true := hp
    unfold nxF
    rw [List.range'_succ, List.find?_cons, hp]
    rfl
  | n + 1, a, i + 1, h, hn, hp => by
    have h0 : pos ws a = false := hn 0 (by omega)
    have ih := nxF_at (ws := ws) (n := n) (a := a + 1) (i := i) (by omega) (fun j hj => by
      have := hn (j + 1) (by omega)
      rw [show a + 1 + j = a + (j + 1) by omega]
      exact this) (by rw [show a + 1 + i = a + (i + 1) by omega]; exact hp)
    unfold nxF at ih ⊢
    rw [List.range'_succ, List.find?_cons, h0]
    show (List.range' (a + 1) n).find? (pos ws) = _
    rw [ih, show a + 1 + i = a + (i + 1) by omega]
theorem nxF_no {ws : List Nat} : ∀ {n a : Nat}, (∀ j, j < n → pos ws (a + j) = false) → nxF ws a n = none
  | 0, a, _ => rfl
  | n + 1, a, hn => by
    have h0 : pos ws a = false := hn 0 (by omega)
    have ih := nxF_no (ws := ws) (n := n) (a := a + 1) (fun j hj => by
      have := hn (j + 1) (by omega)
      rw [show a + 1 + j = a + (j + 1) by omega]
      exact this)
    unfold nxF at ih ⊢
    rw [List.range'_succ, List.find?_cons, h0]
    exact ih
end Fd
/-! The explorer: __init__, advance, begin, end. -/
namespace Fd
open PySem PySem.Spec PyProof.Rows L2
theorem paired_snoc_inv {α β : Type} {F : α → β → Prop} : ∀ {ys : List β} {xs : List α} {y : β}, Paired F xs (ys ++ [y]) → ∃ xs0 x, xs = xs0 ++ [x] ∧ Paired F xs0 ys ∧ F x y
  | [], _, _, .cons r .nil => ⟨[], _, rfl, .nil, r⟩
  | b :: ys, _, y, .cons (a := a) r t => by
    obtain ⟨xs0, x, e, h1, h2⟩ := paired_snoc_inv (ys := ys) t
    exact ⟨a :: xs0, x, by rw [e]; rfl, .cons r h1, h2⟩
theorem paired_nil_inv {α β : Type} {F : α → β → Prop} {xs : List α} (h : Paired F xs []) : xs = [] := by cases h; rfl
theorem snoc_cases {α : Type} (l : List α) : l = [] ∨ ∃ r x, l = r ++ [x] := by
  rcases List.eq_nil_or_concat l with h | ⟨r, x, h⟩
  · exact .inl h
  · exact .inr ⟨r, x, by rw [h, List.concat_eq_append]⟩
section
variable {K : PySem.W.Frag} {H H' : Hp} {n : Nat} {e : XA} {op ov : Bool} {at_ : Nat} {c : Nat × Nat} {p : Path} {rows : List (Out × Nat)}
theorem XOk.path (h : XOk K H n e op ov at_ c p rows) (k : Keep [e.pl] H H') {ps' : List V} {p' : Path} (hp : H' e.pl = some (.lst ps')) (hs : StepsV H' e.pl e.rl e.no ps' p') : XOk K H' n e op ov at_ c p' rows := by
  obtain ⟨⟨dx, cv, ps, rv, a1, a2, a3, a4, a5, a6⟩, ne⟩ := h
  have n1 : e.x ∉ [e.pl] := fun m => by
    rw [List.mem_singleton] at m
    rw [m, a3] at a1; cases a1
  have n2 : e.rl ∉ [e.pl] := fun m => ne (List.mem_singleton.mp m).symm
  exact ⟨⟨dx, cv, ps', rv, k.at_ _ _ n1 a1, a2.keep k, hp, hs, k.at_ _ _ n2 a5, a6.keep k⟩, ne⟩
theorem XOk.inst (h : XOk K H n e op ov at_ c p rows) (k : Keep [e.x] H H') {dx : Addr} {cv : V} {op' ov' : Bool} {at' : Nat} {c' : Nat × Nat} (hx : H' e.x = some (.ins e.C dx (xf e.pl at' cv op' ov' rows.length e.rl))) (hc : IsFr K H' cv c') :
    XOk K H' n e op' ov' at' c' p rows := by
  obtain ⟨⟨dx0, cv0, ps, rv, a1, a2, a3, a4, a5, a6⟩, ne⟩ := h
  have n1 : e.pl ∉ [e.x] := fun m => by
    rw [List.mem_singleton] at m
    rw [m, a1] at a3; cases a3
  have n2 : e.rl ∉ [e.x] := fun m => by
    rw [List.mem_singleton] at m
    rw [m, a1] at a5; cases a5
  exact ⟨⟨dx, cv, ps, rv, hx, hc, k.at_ _ _ n1 a3, a4.keep k (fun b hb => .inr (.inr (.inl ⟨e.C, dx0, _, (List.mem_singleton.mp hb) ▸ a1⟩))), k.at_ _ _ n2 a5, a6.keep k⟩, ne⟩
end
/-! ### promises -/
def spXInit (K : PySem.W.Frag) (C : Addr) : Sp := fun vs H Q _ => ∃ (x dx : Addr), vs = [.ref x] ∧ H x = some (.ins C dx []) ∧ 
  ∀ (H' : Hp) (e : XA), e.C = C → e.x = x → e.no = [] → Keep [x] H H' → H e.pl = none → H e.rl = none → (∀ n, XOk K H' n e false false 0 (1, 1) [] []) → Q .non H'
/-- how the list of picks is turned -/
def Turned (p p' : Path) (b : Bool) : Prop := match adv p with
  | some q => b = true ∧ p' = q
  | none => b = false ∧ p' = []
def spXAdvance (K : PySem.W.Frag) (C : Addr) : Sp := fun vs H Q _ => ∃ (e : XA) (n : Nat) (op ov : Bool) (at_ : Nat) (c : Nat × Nat) (p : Path) (rows : List (Out × Nat)), e.C = C ∧ vs = [.ref e.x] ∧ XOk K H n e op ov at_ c p rows ∧
  (∀ s ∈ p, s.1 ≤ 100 ∧ s.2.length ≤ 100) ∧ p.length ≤ 100 ∧ ∀ (b : Bool) (H' : Hp) (p' : Path), Keep [e.pl] H H' → XOk K H' n e op ov at_ c p' rows → Turned p p' b → Q (.bl b) H'
def spXBegin (K : PySem.W.Frag) (C : Addr) : Sp := fun vs H Q _ => ∃ (e : XA) (n at_ : Nat) (c : Nat × Nat) (p : Path) (rows : List (Out × Nat)), e.C = C ∧ vs = [.ref e.x] ∧ XOk K H n e false false at_ c p rows ∧
  (∀ s ∈ p, s.1 ≤ 100 ∧ s.2.length ≤ 100) ∧ rows.length ≤ 100 ∧ p.length ≤ 100 ∧
  (rows = [] → ∀ H', Keep [e.x, e.pl] H H' → XOk K H' n e true false 0 (1, 1) p rows → Q (.bl true) H') ∧
  (rows ≠ [] → ∀ (q : Path) (H' : Hp), adv p = some q → Keep [e.x, e.pl] H H' → XOk K H' n e true false 0 (1, 1) q rows → Q (.bl true) H') ∧
  (rows ≠ [] → ∀ (H' : Hp), adv p = none → Keep [e.x, e.pl] H H' → XOk K H' n e false true at_ c [] rows → Q (.bl false) H')
def spXEnd (K : PySem.W.Frag) (C : Addr) : Sp := fun vs H Q _ => ∃ (e : XA) (n at_ : Nat) (v : V) (o : Out) (k : Nat) (p : Path) (rows : List (Out × Nat)), e.C = C ∧ vs = [.ref e.x, v] ∧ XOk K H n e true false at_ (fr k n) p rows ∧ OutV H o v ∧ rows.length ≤ 100 ∧
  ∀ H', Keep [e.x, e.rl] H H' → XOk K H' n e false false at_ (fr k n) p (rows ++ [(o, k)]) → Q .non H'
section
variable {P : Program} {w : World} {K : PySem.W.Frag} {mg : Str → Option Value} {base : Heap} {aN aO C : Addr}
theorem scXInit : FnScope ["self"] ["self"] (defScope sXInit) := ⟨rfl, rfl, rfl, by decide +kernel, rfl, by decide +kernel, by decide +kernel⟩
theorem ok_xInit {f : Addr} {fd : FuncData} (F : Fun K "__init__" "Explorer.__init__" sXInit f fd) (T : XTxt K C) (Cc : Cst K mg aN aO) : FnOk P w K mg base CX0 1 f fd ["self"] (spXInit K C) := by
  refine F.ok scXInit (fun vs H Q E h => ?_) (fun cdv A outer s H vs Q E hr h => ?_)
  · obtain ⟨x, dx, rfl, _⟩ := h
    rfl
  obtain ⟨x, dx, rfl, hx, q⟩ := h
  refine ⟨_, pss_cons (ps_fld (pv 0) (pe_lst pa_nil) rfl) (pss_cons (ps_fld (pv 0) pe_int rfl) (pss_cons (ps_fld (pv 0) (pe_glob (v := .ref aO) rfl Cc.gO rfl) rfl)
    (pss_cons (ps_fld (pv 0) pe_bl rfl) (pss_cons (ps_fld (pv 0) pe_bl rfl) (pss_cons (ps_fld (pv 0) pe_int rfl) (pss_one (ps_fld (pv 0) (pe_lst pa_nil) rfl))))))), ?_⟩
  refine ⟨Nat.zero_le _, fun pl hpl => ?_⟩
  have nx : x ≠ pl := ne_of_none hx hpl
  have k0 : Keep [x] H (upd H pl (.lst [])) := Keep.new hpl _
  have hx0 : (upd H pl (.lst [])) x = some (.ins C dx []) := by rw [upd_ne nx]; exact hx
  have hp0 : (upd H pl (.lst [])) pl = some (.lst []) := upd_same
  revert k0 hx0 hp0
  generalize upd H pl (.lst []) = H0
  intro k0 hx0 hp0
  refine ⟨_, rfl, x, C, dx, _, rfl, hx0, T.cl, T.nP, (by show 0 < 1000; decide), ?_⟩
  rw [pf_nil (f := "path")]
  have k1 : Keep [x] H (upd H0 x (HO.ins C dx [(("path" : Str), V.ref pl)])) := k0.trans (Keep.put (List.mem_singleton.mpr rfl) hx0 trivial _)
  have hx1 : (upd H0 x (HO.ins C dx [(("path" : Str), V.ref pl)])) x = some (.ins C dx [(("path" : Str), V.ref pl)]) := upd_same
  have hp1 : (upd H0 x (HO.ins C dx [(("path" : Str), V.ref pl)])) pl = some (.lst []) := by rw [upd_ne (Ne.symm nx)]; exact hp0
  clear k0 hx0 hp0
  revert k1 hx1 hp1
  generalize upd H0 x (HO.ins C dx [(("path" : Str), V.ref pl)]) = H1
  intro k1 hx1 hp1
  refine ⟨_, rfl, x, C, dx, _, rfl, hx1, T.cl, T.nA, (by show 1 < 1000; decide), ?_⟩
  rw [pf_no (a := "at") (k := "path") (by decide +kernel), pf_nil (f := "at")]
  have k2 : Keep [x] H (upd H1 x (HO.ins C dx [(("path" : Str), V.ref pl), (("at" : Str), V.int (0 : Nat))])) := k1.trans (Keep.put (List.mem_singleton.mpr rfl) hx1 trivial _)
  have hx2 : (upd H1 x (HO.ins C dx [(("path" : Str), V.ref pl), (("at" : Str), V.int (0 : Nat))])) x = some (.ins C dx [(("path" : Str), V.ref pl), (("at" : Str), V.int (0 : Nat))]) := upd_same
  have hp2 : (upd H1 x (HO.ins C dx [(("path" : Str), V.ref pl), (("at" : Str), V.int (0 : Nat))])) pl = some (.lst []) := by rw [upd_ne (Ne.symm nx)]; exact hp1
  clear k1 hx1 hp1
  revert k2 hx2 hp2
  generalize upd H1 x (HO.ins C dx [(("path" : Str), V.ref pl), (("at" : Str), V.int (0 : Nat))]) = H2
  intro k2 hx2 hp2
  refine ⟨_, rfl, x, C, dx, _, rfl, hx2, T.cl, T.nC, (by show 2 < 1000; decide), ?_⟩
  rw [pf_no (a := "chance") (k := "path") (by decide +kernel), pf_no (a := "chance") (k := "at") (by decide +kernel), pf_nil (f := "chance")]
  have k3 : Keep [x] H (upd H2 x (HO.ins C dx [(("path" : Str), V.ref pl), (("at" : Str), V.int (0 : Nat)), (("chance" : Str), V.ref aO)])) := k2.trans (Keep.put (List.mem_singleton.mpr rfl) hx2 trivial _)
  have hx3 : (upd H2 x (HO.ins C dx [(("path" : Str), V.ref pl), (("at" : Str), V.int (0 : Nat)), (("chance" : Str), V.ref aO)])) x = some (.ins C dx [(("path" : Str), V.ref pl), (("at" : Str), V.int (0 : Nat)), (("chance" : Str), V.ref aO)]) := upd_same
  have hp3 : (upd H2 x (HO.ins C dx [(("path" : Str), V.ref pl), (("at" : Str), V.int (0 : Nat)), (("chance" : Str), V.ref aO)])) pl = some (.lst []) := by rw [upd_ne (Ne.symm nx)]; exact hp2
  clear k2 hx2 hp2
  revert k3 hx3 hp3
  generalize upd H2 x (HO.ins C dx [(("path" : Str), V.ref pl), (("at" : Str), V.int (0 : Nat)), (("chance" : Str), V.ref aO)]) = H3
  intro k3 hx3 hp3
  refine ⟨_, rfl, x, C, dx, _, rfl, hx3, T.cl, T.nO, (by show 3 < 1000; decide), ?_⟩
  rw [pf_no (a := "is_open") (k := "path") (by decide +kernel), pf_no (a := "is_open") (k := "at") (by decide +kernel), pf_no (a := "is_open") (k := "chance") (by decide +kernel), pf_nil (f := "is_open")]
  have k4 : Keep [x] H (upd H3 x (HO.ins C dx [(("path" : Str), V.ref pl), (("at" : Str), V.int (0 : Nat)), (("chance" : Str), V.ref aO), (("is_open" : Str), V.bl false)])) := k3.trans (Keep.put (List.mem_singleton.mpr rfl) hx3 trivial _)
  have hx4 : (upd H3 x (HO.ins C dx [(("path" : Str), V.ref pl), (("at" : Str), V.int (0 : Nat)), (("chance" : Str), V.ref aO), (("is_open" : Str), V.bl false)])) x = some (.ins C dx [(("path" : Str), V.ref pl), (("at" : Str), V.int (0 : Nat)), (("chance" : Str), V.ref aO), (("is_open" : Str), V.bl false)]) := upd_same
  have hp4 : (upd H3 x (HO.ins C dx [(("path" : Str), V.ref pl), (("at" : Str), V.int (0 : Nat)), (("chance" : Str), V.ref aO), (("is_open" : Str), V.bl false)])) pl = some (.lst []) := by rw [upd_ne (Ne.symm nx)]; exact hp3
  clear k3 hx3 hp3
  revert k4 hx4 hp4
  generalize upd H3 x (HO.ins C dx [(("path" : Str), V.ref pl), (("at" : Str), V.int (0 : Nat)), (("chance" : Str), V.ref aO), (("is_open" : Str), V.bl false)]) = H4
  intro k4 hx4 hp4
  refine ⟨_, rfl, x, C, dx, _, rfl, hx4, T.cl, T.nV, (by show 4 < 1000; decide), ?_⟩
  rw [pf_no (a := "is_over") (k := "path") (by decide +kernel), pf_no (a := "is_over") (k := "at") (by decide +kernel), pf_no (a := "is_over") (k := "chance") (by decide +kernel), pf_no (a := "is_over") (k := "is_open") (by decide +kernel), pf_nil (f := "is_over")]
  have k5 : Keep [x] H (upd H4 x (HO.ins C dx [(("path" : Str), V.ref pl), (("at" : Str), V.int (0 : Nat)), (("chance" : Str), V.ref aO), (("is_open" : Str), V.bl false), (("is_over" : Str), V.bl false)])) := k4.trans (Keep.put (List.mem_singleton.mpr rfl) hx4 trivial _)
  have hx5 : (upd H4 x (HO.ins C dx [(("path" : Str), V.ref pl), (("at" : Str), V.int (0 : Nat)), (("chance" : Str), V.ref aO), (("is_open" : Str), V.bl false), (("is_over" : Str), V.bl false)])) x = some (.ins C dx [(("path" : Str), V.ref pl), (("at" : Str), V.int (0 : Nat)), (("chance" : Str), V.ref aO), (("is_open" : Str), V.bl false), (("is_over" : Str), V.bl false)]) := upd_same
  have hp5 : (upd H4 x (HO.ins C dx [(("path" : Str), V.ref pl), (("at" : Str), V.int (0 : Nat)), (("chance" : Str), V.ref aO), (("is_open" : Str), V.bl false), (("is_over" : Str), V.bl false)])) pl = some (.lst []) := by rw [upd_ne (Ne.symm nx)]; exact hp4
  clear k4 hx4 hp4
  revert k5 hx5 hp5
  generalize upd H4 x (HO.ins C dx [(("path" : Str), V.ref pl), (("at" : Str), V.int (0 : Nat)), (("chance" : Str), V.ref aO), (("is_open" : Str), V.bl false), (("is_over" : Str), V.bl false)]) = H5
  intro k5 hx5 hp5
  refine ⟨_, rfl, x, C, dx, _, rfl, hx5, T.cl, T.nM, (by show 5 < 1000; decide), ?_⟩
  rw [pf_no (a := "many") (k := "path") (by decide +kernel), pf_no (a := "many") (k := "at") (by decide +kernel), pf_no (a := "many") (k := "chance") (by decide +kernel), pf_no (a := "many") (k := "is_open") (by decide +kernel), pf_no (a := "many") (k := "is_over") (by decide +kernel), pf_nil (f := "many")]
  have k6 : Keep [x] H (upd H5 x (HO.ins C dx [(("path" : Str), V.ref pl), (("at" : Str), V.int (0 : Nat)), (("chance" : Str), V.ref aO), (("is_open" : Str), V.bl false), (("is_over" : Str), V.bl false), (("many" : Str), V.int (0 : Nat))])) := k5.trans (Keep.put (List.mem_singleton.mpr rfl) hx5 trivial _)
  have hx6 : (upd H5 x (HO.ins C dx [(("path" : Str), V.ref pl), (("at" : Str), V.int (0 : Nat)), (("chance" : Str), V.ref aO), (("is_open" : Str), V.bl false), (("is_over" : Str), V.bl false), (("many" : Str), V.int (0 : Nat))])) x = some (.ins C dx [(("path" : Str), V.ref pl), (("at" : Str), V.int (0 : Nat)), (("chance" : Str), V.ref aO), (("is_open" : Str), V.bl false), (("is_over" : Str), V.bl false), (("many" : Str), V.int (0 : Nat))]) := upd_same
  have hp6 : (upd H5 x (HO.ins C dx [(("path" : Str), V.ref pl), (("at" : Str), V.int (0 : Nat)), (("chance" : Str), V.ref aO), (("is_open" : Str), V.bl false), (("is_over" : Str), V.bl false), (("many" : Str), V.int (0 : Nat))])) pl = some (.lst []) := by rw [upd_ne (Ne.symm nx)]; exact hp5
  clear k5 hx5 hp5
  revert k6 hx6 hp6
  generalize upd H5 x (HO.ins C dx [(("path" : Str), V.ref pl), (("at" : Str), V.int (0 : Nat)), (("chance" : Str), V.ref aO), (("is_open" : Str), V.bl false), (("is_over" : Str), V.bl false), (("many" : Str), V.int (0 : Nat))]) = H6
  intro k6 hx6 hp6
  refine ⟨Nat.zero_le _, fun rl hrl => ?_⟩
  have nxr : x ≠ rl := ne_of_none hx6 hrl
  have nlr : pl ≠ rl := ne_of_none hp6 hrl
  have hrl0 : H rl = none := by
    cases z : H rl with
    | none => rfl
    | some u =>
      rw [k6.at_ rl u (fun m => nxr (List.mem_singleton.mp m).symm) z] at hrl
      cases hrl
  have k6' : Keep [x] H (upd H6 rl (.lst [])) := k6.trans (Keep.new hrl _)
  have hx6' : (upd H6 rl (.lst [])) x = some (.ins C dx [(("path" : Str), V.ref pl), (("at" : Str), V.int (0 : Nat)), (("chance" : Str), V.ref aO), (("is_open" : Str), V.bl false), (("is_over" : Str), V.bl false), (("many" : Str), V.int (0 : Nat))]) := by rw [upd_ne nxr]; exact hx6
  have hp6' : (upd H6 rl (.lst [])) pl = some (.lst []) := by rw [upd_ne nlr]; exact hp6
  have hr6 : (upd H6 rl (.lst [])) rl = some (.lst []) := upd_same
  clear k6 hx6 hp6 hrl
  revert k6' hx6' hp6' hr6
  generalize upd H6 rl (.lst []) = H6'
  intro k6 hx6 hp6 hr6
  refine ⟨_, rfl, x, C, dx, _, rfl, hx6, T.cl, T.nR, (by show 6 < 1000; decide), ?_⟩
  rw [pf_no (a := "rows") (k := "path") (by decide +kernel), pf_no (a := "rows") (k := "at") (by decide +kernel), pf_no (a := "rows") (k := "chance") (by decide +kernel), pf_no (a := "rows") (k := "is_open") (by decide +kernel), pf_no (a := "rows") (k := "is_over") (by decide +kernel), pf_no (a := "rows") (k := "many") (by decide +kernel), pf_nil (f := "rows")]
  have k7 : Keep [x] H (upd H6' x (HO.ins C dx [(("path" : Str), V.ref pl), (("at" : Str), V.int (0 : Nat)), (("chance" : Str), V.ref aO), (("is_open" : Str), V.bl false), (("is_over" : Str), V.bl false), (("many" : Str), V.int (0 : Nat)), (("rows" : Str), V.ref rl)])) := k6.trans (Keep.put (List.mem_singleton.mpr rfl) hx6 trivial _)
  have hx7 : (upd H6' x (HO.ins C dx [(("path" : Str), V.ref pl), (("at" : Str), V.int (0 : Nat)), (("chance" : Str), V.ref aO), (("is_open" : Str), V.bl false), (("is_over" : Str), V.bl false), (("many" : Str), V.int (0 : Nat)), (("rows" : Str), V.ref rl)])) x = some (.ins C dx [(("path" : Str), V.ref pl), (("at" : Str), V.int (0 : Nat)), (("chance" : Str), V.ref aO), (("is_open" : Str), V.bl false), (("is_over" : Str), V.bl false), (("many" : Str), V.int (0 : Nat)), (("rows" : Str), V.ref rl)]) := upd_same
  have hp7 : (upd H6' x (HO.ins C dx [(("path" : Str), V.ref pl), (("at" : Str), V.int (0 : Nat)), (("chance" : Str), V.ref aO), (("is_open" : Str), V.bl false), (("is_over" : Str), V.bl false), (("many" : Str), V.int (0 : Nat)), (("rows" : Str), V.ref rl)])) pl = some (.lst []) := by rw [upd_ne (Ne.symm nx)]; exact hp6
  have hr7 : (upd H6' x (HO.ins C dx [(("path" : Str), V.ref pl), (("at" : Str), V.int (0 : Nat)), (("chance" : Str), V.ref aO), (("is_open" : Str), V.bl false), (("is_over" : Str), V.bl false), (("many" : Str), V.int (0 : Nat)), (("rows" : Str), V.ref rl)])) rl = some (.lst []) := by rw [upd_ne (Ne.symm nxr)]; exact hr6
  exact q _ ⟨C, x, pl, rl, []⟩ rfl rfl rfl k7 hpl hrl0 fun n => ⟨⟨dx, .ref aO, [], [], hx7, Cc.frO _, hp7, .nil, hr7, .nil⟩, nlr⟩
end
end Fd
/-! The explorer: advance. -/
namespace Fd
open PySem PySem.Spec PyProof.Rows L2
section
variable {P : Program} {w : World} {K : PySem.W.Frag} {mg : Str → Option Value} {base : Heap} {aN aO C : Addr}
theorem scXAdvance : FnScope ["self", "number", "weights", "other"] ["self"] (defScope sXAdvance) := ⟨rfl, rfl, rfl, by decide +kernel, rfl, by decide +kernel, by decide +kernel⟩
theorem steps_len {H : Hp} {pl rl : Addr} {no : List Addr} {ps : List V} {p : Path} (h : StepsV H pl rl no ps p) : ps.length = p.length := Paired.length h
theorem turned_of {p p1 : Path} {p' : Path} {b : Bool} (e : adv p = adv p1) (h : Turned p1 p' b) : Turned p p' b := by
  unfold Turned at *
  rw [e]
  exact h
theorem ok_xAdvance {f : Addr} {fd : FuncData} (F : Fun K "advance" "Explorer.advance" sXAdvance f fd) (T : XTxt K C) (gLen : mg "len" = none) (gRange : mg "range" = none) : FnOk P w K mg base CX0 1 f fd ["self"] (spXAdvance K C) := by
  refine F.ok scXAdvance (fun vs H Q E h => ?_) (fun cdv A outer s H vs Q E hr h => ?_)
  · obtain ⟨e, n, op, ov, at_, c, p, rows, _, rfl, _⟩ := h
    rfl
  obtain ⟨e, n, op, ov, at_, c, p, rows, rfl, rfl, hX, hsm, hpl, q⟩ := h
  refine ⟨_, pss_cons (ps_while PassesOwn.never (pt_cmpR op_gt (pe_callB call_len_seq (by rfl) gLen PySem.boot_len (pa_cons (pe_fld (pv 0) rfl) pa_nil)) pe_int (nomark _))
      (pss_cons (ps_asg (pe_bm0 PySem.F.plainAttrs_list PySem.F.slot_list_pop PySem.F.type_list_pop mt_pop (pe_fld (pv 0) rfl)) (pg_tup rfl (pgs_cons (pg_name (i := 1) scXAdvance.nd rfl (Or.inl rfl)) (pgs_cons (pg_name (i := 2) scXAdvance.nd rfl (Or.inl rfl)) pgs_nil))))
      (pss_one (ps_for PassesOwn.never rfl (pi_range2 (by rfl) gRange (pa_cons (pe_op op_add (pv 1) pe_int) (pa_cons (pe_callB call_len_seq (by rfl) gLen PySem.boot_len (pa_cons (pv 2) pa_nil)) pa_nil))) (pg_name (i := 3) scXAdvance.nd rfl (Or.inl rfl))
        (pss_one (ps_if (pt_cmpR op_gt (pe_ix ix_list (pv 2) (pv 3) (fun _ _ => rfl)) pe_int (nomark _))
          (pss_cons (ps_expr (pe_bm PySem.F.plainAttrs_list PySem.F.slot_list_append PySem.F.type_list_append mt_append (pe_fld (pv 0) rfl) (pa_cons (pe_tup (pa_cons (pv 3) (pa_cons (pv 2) pa_nil))) pa_nil)))
            (pss_one (ps_ret pe_bl))) pss_nil))))))
    (pss_one (ps_ret pe_bl)), ?_⟩
  refine ⟨fun m σ H' => ∃ (p1 : Path) (a b o : Option V), σ = [some (.ref e.x), a, b, o] ∧ m = p1.length ∧ Keep [e.pl] H H' ∧ XOk K H' n e op ov at_ c p1 rows ∧ adv p = adv p1 ∧ (∀ s ∈ p1, s.1 ≤ 100 ∧ s.2.length ≤ 100) ∧ p1.length ≤ 100,
    ⟨_, p, none, none, none, rfl, rfl, Keep.refl _ H, hX, rfl, hsm, hpl⟩, ?_⟩
  rintro m σ H' ⟨p1, a, b, o, rfl, rfl, kp, hX1, ea, hsm1, hpl1⟩
  obtain ⟨⟨dx, cv, ps, rv, a1, a2, a3, a4, a5, a6⟩, ne⟩ := id hX1
  refine ⟨_, rfl, e.x, e.C, dx, _, _, rfl, a1, T.cl, T.nP, xf_path _ _ _ _ _ _ _, e.pl, ps, rfl, .inl (SqL.of a3), _, _, rfl, rfl, _, rfl, ?_⟩
  rcases snoc_cases p1 with rfl | ⟨p0, s, rfl⟩
  · have eps : ps = [] := paired_nil_inv a4
    subst eps
    refine ite2 (fun c => ?_) (fun _ => ?_)
    · exfalso
      have c2 : (0 : Int) < ((([] : List V).length : Nat) : Int) := of_decide_eq_true c
      exact absurd c2 (by decide)
    · refine q false H' [] kp hX1 ?_
      unfold Turned
      rw [ea]
      exact ⟨rfl, rfl⟩
  obtain ⟨ps0, v, rfl, st0, t, wl, rfl, ht, hwl, nw1, nw2, nw3⟩ := paired_snoc_inv a4
  obtain ⟨k, ws⟩ := s
  have hk := hsm1 (k, ws) (List.mem_append_right _ (List.mem_singleton.mpr rfl))
  refine ite2 (fun _ => ?_) (fun c => ?_)
  case refine_2 =>
    exfalso
    refine c (decide_eq_true ?_)
    rw [List.length_append]
    show (0 : Int) < ((ps0.length + 1 : Nat) : Int)
    omega
  have elast : (ps0 ++ [V.ref t])[(ps0 ++ [V.ref t]).length - 1]? = some (V.ref t) := by
    rw [List.length_append]
    show (ps0 ++ [V.ref t])[ps0.length]? = _
    rw [List.getElem?_append_right (Nat.le_refl _), Nat.sub_self]
    rfl
  have kpop : Keep [e.pl] H' (upd H' e.pl (.lst ps0)) := Keep.put (List.mem_singleton.mpr rfl) a3 trivial _
  have hw2 : (upd H' e.pl (.lst ps0)) wl = some (.lst (intsV ws)) := by rw [upd_ne nw1]; exact hwl
  have hX2 : XOk K (upd H' e.pl (.lst ps0)) n e op ov at_ c p0 rows := hX1.path kpop upd_same (StepsV.keep kpop st0 fun b hb => .inl (List.mem_singleton.mp hb))
  have hdl : (ps0 ++ [V.ref t]).dropLast = ps0 := by rw [List.dropLast_concat]
  have ht2 := kpop.tup _ _ ht
  refine ⟨fun σ' H2 => ∃ (p2 : Path) (a b o : Option V), σ' = [some (.ref e.x), a, b, o] ∧ p2 = p0 ∧ Keep [e.pl] H H2 ∧ XOk K H2 n e op ov at_ c p2 rows ∧ adv p = adv p2 ∧ (∀ s ∈ p2, s.1 ≤ 100 ∧ s.2.length ≤ 100), ?_, ?_⟩
  · rintro σ' H2 ⟨p2, a', b', o', e1, e2, e3, e4, e5, e6⟩
    refine ⟨p0.length, by rw [List.length_append]; exact Nat.lt_succ_self _, p2, a', b', o', e1, by rw [e2], e3, e4, e5, e6, ?_⟩
    rw [List.length_append] at hpl1
    rw [e2]
    omega
  refine ⟨_, rfl, e.x, e.C, dx, _, _, rfl, a1, T.cl, T.nP, xf_path _ _ _ _ _ _ _, .inl ⟨rfl, _, SqL.of a3⟩, e.pl, _, _, rfl, rfl, a3, elast, ?_⟩
  rw [hdl]
  refine ⟨t, _, rfl, SqT.of ht2, rfl, _, _, rfl, _, _, rfl, rfl, ?_⟩
  refine ⟨_, rfl, _, _, rfl, rfl, _, rfl, wl, _, rfl, .inl (SqL.of hw2), _, _, rfl, ⟨by omega, by omega, by omega, ?_⟩, ?_⟩
  · rw [intsV_len]
    have := hk.2
    have h2 : ws.length ≤ 100 := this
    omega
  have k100 : k ≤ 100 := hk.1
  have w100 : ws.length ≤ 100 := hk.2
  have en : ((((intsV ws).length : Nat) : Int) - (((k : Nat) : Int) + 1)).toNat = ws.length - (k + 1) := by
    rw [intsV_len]
    omega
  rw [en]
  refine for_range (lo := ((k : Nat) : Int) + 1) (n := ws.length - (k + 1)) (fun i σ' H2 => ∃ o, σ' = [some (.ref e.x), some (.int (k : Nat)), some (.ref wl), o] ∧ H2 = upd H' e.pl (.lst ps0) ∧ ∀ j, j < i → pos ws (k + 1 + j) = false) ⟨_, rfl, rfl, fun j hj => by omega⟩ ?_ ?_
  · rintro i σ' H2 hi ⟨o', rfl, rfl, hno⟩
    have ei : (((k : Nat) : Int) + 1) + ((i : Nat) : Int) = ((k + 1 + i : Nat) : Int) := by omega
    have hlt : k + 1 + i < ws.length := by omega
    refine ⟨_, rfl, _, rfl, wl, _, _, _, rfl, rfl, SqL.of hw2, at_of ei (intsV_get hlt), _, _, rfl, rfl, _, rfl, ?_⟩
    refine ite2 (fun c => ?_) (fun c => ?_)
    · have c2 : (0 : Int) < ((ws.getD (k + 1 + i) 0 : Nat) : Int) := of_decide_eq_true c
      have hp : pos ws (k + 1 + i) = true := decide_eq_true (by omega)
      have hx := nxF_at (n := ws.length - (k + 1)) hi hno hp
      obtain ⟨⟨dx2, cv2, ps2, rv2, b1, b2, b3, b4, b5, b6⟩, _⟩ := id hX2
      refine ⟨_, rfl, e.x, e.C, dx2, _, _, rfl, b1, T.cl, T.nP, xf_path _ _ _ _ _ _ _, .inl ⟨rfl, _, SqL.of b3⟩, _, rfl, _, rfl, (by show 2 ≤ sizeLine; decide), fun t2 ht2' => ?_⟩
      rw [ei]
      have np : e.pl ≠ t2 := ne_of_none upd_same ht2'
      have nw : wl ≠ t2 := ne_of_none hw2 ht2'
      have k3 : Keep [e.pl] (upd H' e.pl (.lst ps0)) (upd (upd H' e.pl (.lst ps0)) t2 (.tup [.int ((k + 1 + i : Nat) : Int), .ref wl])) := Keep.new ht2' _
      have b3' : (upd H' e.pl (.lst ps0)) e.pl = some (.lst ps0) := upd_same
      have eps2 : ps2 = ps0 := by
        rw [b3'] at b3
        exact (HO.lst.inj (Option.some.inj b3)).symm
      subst eps2
      have b3'' : (upd (upd H' e.pl (.lst ps2)) t2 (.tup [.int ((k + 1 + i : Nat) : Int), .ref wl])) e.pl = some (.lst ps2) := by rw [upd_ne np]; exact b3
      have l0 : ps2.length < sizeLine := by
        have z := steps_len st0
        rw [List.length_append] at hpl1
        exact small1000 (by omega)
      refine ⟨e.pl, _, _, rfl, rfl, b3'', l0, ?_⟩
      have k4 := Keep.put (S := [e.pl]) (List.mem_singleton.mpr rfl) b3'' trivial (HO.lst (ps2 ++ [.ref t2]))
      have kall := (kp.trans kpop).trans (k3.trans k4)
      have hXn := hX2.path (k3.trans k4) upd_same (p' := p0 ++ [(k + 1 + i, ws)]) (paired_snoc (StepsV.keep (k3.trans k4) b4 fun b hb => .inl (List.mem_singleton.mp hb))
        ⟨t2, wl, rfl, k4.tup _ _ upd_same, by rw [upd_ne nw1, upd_ne nw]; exact hw2, nw1, nw2, nw3⟩)
      refine q true _ _ kall hXn (turned_of ea ?_)
      unfold Turned
      rw [adv_snoc]
      have hx' : nxt ws k = some (k + 1 + i) := hx
      rw [hx']
      exact ⟨rfl, rfl⟩
    · refine ⟨_, rfl, rfl, fun j hj => ?_⟩
      rcases Nat.lt_or_ge j i with h | h
      · exact hno j h
      · have ej : j = i := by omega
        subst ej
        have c2 : ¬ (0 : Int) < ((ws.getD (k + 1 + j) 0 : Nat) : Int) := fun z => c (decide_eq_true z)
        exact decide_eq_false (by omega)
  · rintro σ' H2 ⟨o', rfl, rfl, hno⟩
    refine ⟨p0, _, _, _, rfl, rfl, kp.trans kpop, hX2, ?_, fun s hs => hsm1 s (List.mem_append_left _ hs)⟩
    rw [ea, adv_snoc]
    have hx' : nxt ws k = none := nxF_no hno
    rw [hx']
end
end Fd
/-! The explorer: begin, end. -/
namespace Fd
open PySem PySem.Spec PyProof.Rows L2
section
variable {P : Program} {w : World} {K : PySem.W.Frag} {mg : Str → Option Value} {base : Heap} {aN aO C : Addr}
theorem tail_begin {e : XA} {H : Hp} {n : Nat} {op ov : Bool} {at_ : Nat} {c : Nat × Nat} {p : Path} {rows : List (Out × Nat)} {D : Ends} {σ : L2.St} (T : XTxt K e.C) (Cc : Cst K mg aN aO) (hX : XOk K H n e op ov at_ c p rows)
    (q : ∀ H', Keep [e.x] H H' → XOk K H' n e true ov 0 (1, 1) p rows → D.rt (.bl true) H') (hσ : σ[0]? = some (some (.ref e.x))) :
    tSeq (sFld K (tVar 0) (tC (.bl true)) "is_open") (tSeq (sFld K (tVar 0) (tC (.int 0)) "at") (tSeq (sFld K (tVar 0) (tC (.ref aO)) "chance") (tRet (tC (.bl true))))) D σ H := by
  obtain ⟨⟨dx, cv, ps, rv, a1, a2, a3, a4, a5, a6⟩, ne⟩ := id hX
  refine ⟨_, hσ, e.x, e.C, dx, _, rfl, a1, T.cl, T.nO, xf_len _ _ _ _ _ _ _, ?_⟩
  rw [xf_put_is_open]
  refine ⟨_, hσ, e.x, e.C, dx, _, rfl, upd_same, T.cl, T.nA, xf_len _ _ _ _ _ _ _, ?_⟩
  have e0 : (V.int 0) = V.int ((0 : Nat) : Int) := rfl
  rw [e0, xf_put_at, upd_upd]
  refine ⟨_, hσ, e.x, e.C, dx, _, rfl, upd_same, T.cl, T.nC, xf_len _ _ _ _ _ _ _, ?_⟩
  rw [xf_put_chance, upd_upd]
  have k := Keep.put (S := [e.x]) (List.mem_singleton.mpr rfl) a1 trivial (HO.ins e.C dx (xf e.pl 0 (.ref aO) true ov rows.length e.rl))
  exact q _ k (hX.inst k upd_same (Cc.frO _))
theorem scXBegin : FnScope ["self", "kept"] ["self"] (defScope sXBegin) := ⟨rfl, rfl, rfl, by decide +kernel, rfl, by decide +kernel, by decide +kernel⟩
theorem ok_xBegin {f : Addr} {fd : FuncData} {t0 : Tok} (F : Fun K "begin" "Explorer.begin" sXBegin f fd) (T : XTxt K C) (Cc : Cst K mg aN aO) (hA : HasM P w K mg base C "advance" 1 ["self"] (spXAdvance K C)) (gList : mg "list" = none) (gMost : mg "MOST_RUNS" = some (.int 20000 t0)) :
    FnOk P w K mg base CX0 2 f fd ["self"] (spXBegin K C) := by
  obtain ⟨fA, dA, mA, GA, bA⟩ := hA
  refine F.ok scXBegin (fun vs H Q E h => ?_) (fun cdv A outer s H vs Q E hr h => ?_)
  · obtain ⟨e, n, at_, c, p, rows, _, rfl, _⟩ := h
    rfl
  obtain ⟨e, n, at_, c, p, rows, rfl, rfl, hX, hsm, hrl, hpl, q1, q2, q3⟩ := h
  refine ⟨_, pss_cons (ps_if (pt_val (pe_fld (pv 0) rfl)) pss_never pss_nil) (pss_cons (ps_if (pt_val (pe_fld (pv 0) rfl)) (pss_one (ps_ret pe_bl)) pss_nil)
    (pss_cons (ps_if (pt_cmpR op_gt (pe_fld (pv 0) rfl) pe_int (nomark _))
      (pss_cons (ps_set (i := 1) scXBegin.nd rfl (Or.inl rfl) (pe_callTy call_list_of (by rfl) gList (by decide +kernel) (pa_cons (pe_fld (pv 0) rfl) pa_nil)))
      (pss_cons (ps_if (pt_not (pt_val (pe_meth0 (pv 0) T.cl mA GA hr bA .nil pass0))) (pss_cons (ps_fld (pv 0) pe_bl rfl) (pss_one (ps_ret pe_bl))) pss_nil)
      (pss_one (ps_if (pt_cmpR op_eq (pe_fld (pv 0) rfl) (pe_glob (v := .int 20000) rfl gMost ⟨_, rfl⟩) (nomark _)) pss_never pss_nil)))) pss_nil)
    (pss_cons (ps_fld (pv 0) pe_bl rfl) (pss_cons (ps_fld (pv 0) pe_int rfl) (pss_cons (ps_fld (pv 0) (pe_glob (v := .ref aO) rfl Cc.gO rfl) rfl) (pss_one (ps_ret pe_bl))))))), ?_⟩
  obtain ⟨⟨dx, cv, ps, rv, a1, a2, a3, a4, a5, a6⟩, ne⟩ := id hX
  refine ⟨_, rfl, e.x, e.C, dx, _, _, rfl, a1, T.cl, T.nO, xf_is_open _ _ _ _ _ _ _, _, rfl, iteF ?_⟩
  refine ⟨_, rfl, e.x, e.C, dx, _, _, rfl, a1, T.cl, T.nV, xf_is_over _ _ _ _ _ _ _, _, rfl, iteF ?_⟩
  refine ⟨_, rfl, e.x, e.C, dx, _, _, rfl, a1, T.cl, T.nM, xf_many _ _ _ _ _ _ _, _, _, rfl, rfl, _, rfl, ?_⟩
  refine ite2 (fun c1 => ?_) (fun c1 => ?_)
  case refine_2 =>
    have r0 : rows = [] := by
      cases rows with
      | nil => rfl
      | cons a r =>
        exfalso
        refine c1 (decide_eq_true ?_)
        show (0 : Int) < ((r.length + 1 : Nat) : Int)
        omega
    exact tail_begin T Cc hX (fun H' k hx => q1 r0 H' (k.mono fun b hb => List.mem_cons.mpr (.inl (List.mem_singleton.mp hb))) hx) rfl
  have r1 : rows ≠ [] := fun z => by
    subst z
    have c2 : (0 : Int) < ((0 : Nat) : Int) := of_decide_eq_true c1
    exact absurd c2 (by decide)
  refine ⟨_, rfl, e.x, e.C, dx, _, _, rfl, a1, T.cl, T.nP, xf_path _ _ _ _ _ _ _, e.pl, ps, rfl, .inl (SqL.of a3), fun r hr0 => ?_⟩
  have k1 : Keep [] H (upd H r (.lst ps)) := Keep.new hr0 _
  have hX1 := XOk.same k1.same hX
  refine ⟨_, rfl, e.x, dx, _, rfl, k1.same _ _ a1, xf_no_advance _ _ _ _ _ _ _, e, n, false, false, at_, c, p, rows, rfl, rfl, hX1, hsm, hpl, fun b H' p' k2 hX2 ht => ⟨_, rfl, ?_⟩⟩
  have k12 : Keep [e.x, e.pl] H H' := (k1.mono fun b hb => by simp at hb).trans (k2.mono fun b hb => by rw [List.mem_singleton.mp hb]; simp)
  obtain ⟨⟨dx2, cv2, ps2, rv2, b1, b2, b3, b4, b5, b6⟩, _⟩ := id hX2
  unfold Turned at ht
  cases ea : adv p with
  | none =>
    rw [ea] at ht
    obtain ⟨rfl, rfl⟩ := ht
    refine iteT ?_
    refine ⟨_, rfl, e.x, e.C, dx2, _, rfl, b1, T.cl, T.nV, xf_len _ _ _ _ _ _ _, ?_⟩
    rw [xf_put_is_over]
    have k3 := Keep.put (S := [e.x]) (List.mem_singleton.mpr rfl) b1 trivial (HO.ins e.C dx2 (xf e.pl at_ cv2 false true rows.length e.rl))
    exact q3 r1 _ ea (k12.trans (k3.mono fun b hb => by rw [List.mem_singleton.mp hb]; simp)) (hX2.inst k3 upd_same (b2.keep k3))
  | some pn =>
    rw [ea] at ht
    obtain ⟨rfl, rfl⟩ := ht
    refine iteF ?_
    refine ⟨_, rfl, e.x, e.C, dx2, _, _, rfl, b1, T.cl, T.nM, xf_many _ _ _ _ _ _ _, rfl, _, rfl, ?_⟩
    refine ite2 (fun c2 => ?_) (fun _ => ?_)
    · exfalso
      have c3 : V.int ((rows.length : Nat) : Int) = V.int 20000 := of_decide_eq_true c2
      have c4 : ((rows.length : Nat) : Int) = 20000 := V.int.inj c3
      omega
    · exact tail_begin T Cc hX2 (fun H2 k hx => q2 r1 p' H2 ea (k12.trans (k.mono fun b hb => by rw [List.mem_singleton.mp hb]; simp)) hx) rfl
theorem scXEnd : FnScope ["self", "outcome"] ["self", "outcome"] (defScope sXEnd) := ⟨rfl, rfl, rfl, by decide +kernel, rfl, by decide +kernel, by decide +kernel⟩
theorem ok_xEnd {f : Addr} {fd : FuncData} (F : Fun K "end" "Explorer.end" sXEnd f fd) (T : XTxt K C) : FnOk P w K mg base CX0 1 f fd ["self", "outcome"] (spXEnd K C) := by
  refine F.ok scXEnd (fun vs H Q E h => ?_) (fun cdv A outer s H vs Q E hr h => ?_)
  · obtain ⟨e, n, at_, v, o, k, p, rows, _, rfl, _⟩ := h
    rfl
  obtain ⟨e, n, at_, v, o, k, p, rows, rfl, rfl, hX, hov, hrl, q⟩ := h
  refine ⟨_, pss_cons (ps_expr (pe_bm PySem.F.plainAttrs_list PySem.F.slot_list_append PySem.F.type_list_append mt_append (pe_fld (pv 0) rfl) (pa_cons (pe_tup (pa_cons (pv 1) (pa_cons (pe_fld (pv 0) rfl) pa_nil))) pa_nil)))
    (pss_cons (ps_fldaug (pv 0) pe_int in_add) (pss_one (ps_fld (pv 0) pe_bl rfl))), ?_⟩
  obtain ⟨⟨dx, cv, ps, rv, a1, a2, a3, a4, a5, a6⟩, ne⟩ := id hX
  have rlen := rows_len a6
  refine ⟨_, rfl, e.x, e.C, dx, _, _, rfl, a1, T.cl, T.nR, xf_rows _ _ _ _ _ _ _, .inl ⟨rfl, _, SqL.of a5⟩, _, rfl, _, rfl, e.x, e.C, dx, _, _, rfl, a1, T.cl, T.nC, xf_chance _ _ _ _ _ _ _, (by show 2 ≤ sizeLine; decide), fun t ht => ?_⟩
  have nt1 : e.rl ≠ t := ne_of_none a5 ht
  have nt2 : e.x ≠ t := ne_of_none a1 ht
  have nt3 : e.pl ≠ t := ne_of_none a3 ht
  have nxr : e.x ≠ e.rl := ne_kind a1 a5 (by intro z; cases z)
  have nxp : e.x ≠ e.pl := ne_kind a1 a3 (by intro z; cases z)
  have k1 : Keep [] H (upd H t (.tup [v, cv])) := Keep.new ht _
  have a5' : (upd H t (.tup [v, cv])) e.rl = some (.lst rv) := k1.same _ _ a5
  have k2 := Keep.put (S := [e.rl]) (List.mem_singleton.mpr rfl) a5' trivial (HO.lst (rv ++ [.ref t]))
  refine ⟨e.rl, _, _, rfl, rfl, a5', small1000 (by omega), ?_⟩
  have ht2 : (upd (upd H t (.tup [v, cv])) e.rl (.lst (rv ++ [.ref t]))) t = some (.tup [v, cv]) := k2.tup _ _ upd_same
  have a1' : (upd (upd H t (.tup [v, cv])) e.rl (.lst (rv ++ [.ref t]))) e.x = some (.ins e.C dx (xf e.pl at_ cv true false rows.length e.rl)) := by rw [upd_ne nxr, upd_ne nt2]; exact a1
  have a3' : (upd (upd H t (.tup [v, cv])) e.rl (.lst (rv ++ [.ref t]))) e.pl = some (.lst ps) := by rw [upd_ne ne, upd_ne nt3]; exact a3
  have a5'' : (upd (upd H t (.tup [v, cv])) e.rl (.lst (rv ++ [.ref t]))) e.rl = some (.lst (rv ++ [.ref t])) := upd_same
  have st' := StepsV.keep k2 (StepsV.keep k1 a4 (by simp)) fun b hb => .inr (.inl (List.mem_singleton.mp hb))
  have rw' : RowsV K (upd (upd H t (.tup [v, cv])) e.rl (.lst (rv ++ [.ref t]))) n (rv ++ [.ref t]) (rows ++ [(o, k)]) :=
    paired_snoc ((a6.keep k1).keep k2) ⟨t, v, cv, rfl, ht2, (hov.keep k1).keep k2, (a2.keep k1).keep k2⟩
  have cf := (a2.keep k1).keep k2
  have k12 : Keep [e.x, e.rl] H (upd (upd H t (.tup [v, cv])) e.rl (.lst (rv ++ [.ref t]))) := (k1.mono fun b hb => by simp at hb).trans (k2.mono fun b hb => by rw [List.mem_singleton.mp hb]; simp)
  clear k1 k2 ht2
  revert a1' a3' a5'' st' rw' cf k12
  generalize upd (upd H t (.tup [v, cv])) e.rl (.lst (rv ++ [.ref t])) = H2
  intro a1' a3' a5'' st' rw' cf k12
  refine ⟨_, rfl, e.x, e.C, dx, _, _, rfl, a1', T.cl, T.nM, xf_many _ _ _ _ _ _ _, _, _, rfl, rfl, dx, _, a1', xf_len _ _ _ _ _ _ _, ?_⟩
  have e0 : (V.int (((rows.length : Nat) : Int) + 1)) = V.int ((rows.length + 1 : Nat) : Int) := rfl
  rw [e0, xf_put_many]
  refine ⟨_, rfl, e.x, e.C, dx, _, rfl, upd_same, T.cl, T.nO, xf_len _ _ _ _ _ _ _, ?_⟩
  rw [xf_put_is_open, upd_upd]
  have k3 := Keep.put (S := [e.x]) (List.mem_singleton.mpr rfl) a1' trivial (HO.ins e.C dx (xf e.pl at_ cv false false (rows.length + 1) e.rl))
  refine q _ (k12.trans (k3.mono fun b hb => by rw [List.mem_singleton.mp hb]; simp)) ⟨⟨dx, cv, ps, rv ++ [.ref t], ?_, cf.keep k3, ?_, ?_, ?_, rw'.keep k3⟩, ne⟩
  · rw [upd_same, List.length_append]
    rfl
  · rw [upd_ne (Ne.symm nxp)]; exact a3'
  · exact StepsV.keep k3 st' fun b hb => .inr (.inr (.inl ⟨_, _, _, (List.mem_singleton.mp hb) ▸ a1'⟩))
  · rw [upd_ne (Ne.symm nxr)]; exact a5''
end
end Fd
/-! The explorer: pick, gathered. -/
namespace Fd
open PySem PySem.Spec PyProof.Rows L2
theorem getD_le_sum : ∀ (ws : List Nat) (k : Nat), ws.getD k 0 ≤ ws.sum
  | [], _ => Nat.zero_le _
  | a :: r, 0 => by rw [List.sum_cons]; exact Nat.le_add_right _ _
  | a :: r, k + 1 => by
    rw [List.sum_cons]
    exact Nat.le_trans (getD_le_sum r k) (Nat.le_add_left _ _)
/-- what of the list of picks is asked, and what stands behind it then -/
def Takes1 (ws : List Nat) (r : Path) (k : Nat) (r' : Path) : Prop := match r with
  | [] => k = first ws ∧ r' = []
  | (j, _) :: r0 => k = j ∧ r' = r0
def Fits (ws : List Nat) (r : Path) : Prop := match r with
  | [] => True
  | (k, vs) :: _ => vs = ws ∧ k < ws.length ∧ pos ws k = true
def spXPick (K : PySem.W.Frag) (C : Addr) : Sp := fun vs H Q _ => ∃ (e : XA) (n : Nat) (dn r : Path) (wl : Addr) (ws : List Nat) (rows : List (Out × Nat)), e.C = C ∧ vs = [.ref e.x, .ref wl] ∧
  XOk K H n e true false dn.length (fr (num dn) (den dn)) (dn ++ r) rows ∧ H wl = some (.lst (intsV ws)) ∧ wl ≠ e.pl ∧ 0 < ws.sum ∧ ws.length ≤ 3 ∧ ws.sum ≤ 1000 ∧ Fits ws r ∧ num dn ≤ 1000000 ∧ 0 < den dn ∧ den dn ≤ 1000000 ∧ dn.length ≤ 50 ∧ r.length ≤ 50 ∧ (∀ b ∈ e.no, ∃ o, H b = some o) ∧
  ∀ (H' : Hp) (k : Nat) (r' : Path), Takes1 ws r k r' → k < ws.length → pos ws k = true → Keep [e.x, e.pl] H H' → XOk K H' n e true false (dn ++ [(k, ws)]).length (fr (num (dn ++ [(k, ws)])) (den (dn ++ [(k, ws)]))) (dn ++ [(k, ws)] ++ r') rows → Q (.int (k : Nat)) H'
def spXGathered (K : PySem.W.Frag) (C : Addr) : Sp := fun vs H Q _ => ∃ (e : XA) (n at_ fm : Nat) (c : Nat × Nat) (p : Path) (rs : List (Out × Nat)), e.C = C ∧ vs = [.ref e.x] ∧ XOk K H n e false true at_ c p rs ∧ 0 < n ∧ n ≤ 1800 ∧ (rs.map (·.2)).sum = n ∧ rs.length ≤ 50 ∧
  (∀ q ∈ rs, q.1.form = fm ∧ 0 < q.2) ∧
  ∀ (r : Addr) (H' : Hp) (ys : List V) (os : List Out), Same H H' → H' r = some (.lst ys) → os.Pairwise Out.lt → (∀ o, o ∈ os ↔ o ∈ rs.map (·.1)) → RowsV K H' n ys (os.map fun o => (o, tot o rs)) → Q (.ref r) H'
section
variable {P : Program} {w : World} {K : PySem.W.Frag} {mg : Str → Option Value} {base : Heap} {aN aO C : Addr}
theorem scXGathered : FnScope ["self"] ["self"] (defScope sXGathered) := ⟨rfl, rfl, rfl, by decide +kernel, rfl, by decide +kernel, by decide +kernel⟩
theorem ok_xGathered {f : Addr} {fd : FuncData} (F : Fun K "gathered" "Explorer.gathered" sXGathered f fd) (T : XTxt K C) (hL : Has P w K mg base "law_from" 5 ["rows"] (spLawFrom K)) : FnOk P w K mg base CX0 6 f fd ["self"] (spXGathered K C) := by
  obtain ⟨fL, dL, mL, GL, bL, kL⟩ := hL
  refine F.ok scXGathered (fun vs H Q E h => ?_) (fun cdv A outer s H vs Q E hr h => ?_)
  · obtain ⟨e, n, at_, fm, c, p, rs, _, rfl, _⟩ := h
    rfl
  obtain ⟨e, n, at_, fm, c, p, rs, rfl, rfl, hX, hn, hn2, hs, hl, hq, q⟩ := h
  refine ⟨_, pss_cons (ps_if (pt_not (pt_val (pe_fld (pv 0) rfl))) pss_never pss_nil) (pss_one (ps_ret (pe_call GL hr rfl mL kL bL .nil pass0 (pa_cons (pe_fld (pv 0) rfl) pa_nil)))), ?_⟩
  obtain ⟨⟨dx, cv, ps, rv, a1, a2, a3, a4, a5, a6⟩, ne⟩ := id hX
  refine ⟨_, rfl, e.x, e.C, dx, _, _, rfl, a1, T.cl, T.nV, xf_is_over _ _ _ _ _ _ _, _, rfl, iteF ?_⟩
  exact ⟨_, rfl, e.x, e.C, dx, _, _, rfl, a1, T.cl, T.nR, xf_rows _ _ _ _ _ _ _, e.rl, rv, rs, n, fm, rfl, SqL.of a5, a6, hn, hn2, hs, hl, hq, q⟩
theorem tail_pick {e : XA} {H : Hp} {n : Nat} {dn r' : Path} {k : Nat} {wl : Addr} {ws : List Nat} {rows : List (Out × Nat)} {D : Ends} {a b : Option V} (T : XTxt K e.C) (hX : XOk K H n e true false dn.length (fr (num dn) (den dn)) (dn ++ [(k, ws)] ++ r') rows)
    (hw : H wl = some (.lst (intsV ws))) (hk : k < ws.length) (hs0 : 0 < ws.sum) (hs1 : ws.sum ≤ 1000) (hn1 : num dn ≤ 1000000) (hd0 : 0 < den dn) (hd1 : den dn ≤ 1000000)
    (q : ∀ H', Keep [e.x, e.pl] H H' → XOk K H' n e true false (dn ++ [(k, ws)]).length (fr (num (dn ++ [(k, ws)])) (den (dn ++ [(k, ws)]))) (dn ++ [(k, ws)] ++ r') rows → D.rt (.int (k : Nat)) H') :
    tSeq (tAsg (tOp (rIxT K) (tOp (rIxL K) (tFld K (tVar 0) "path") (tFld K (tVar 0) "at")) (tC (.int 0))) (gName 2))
      (tSeq (sFldAug K (tVar 0) (tC (.int 1)) rAdd "at")
      (tSeq (sFld K (tVar 0) (tCall (spTimes K) [] E0 (tCons (tFld K (tVar 0) "chance") (tCons (tCall spLowest [] E0 (tCons (tOp (rIxL K) (tVar 1) (tVar 2)) (tCons (tCB (rSum K) (tCons (tVar 1) tNil)) tNil))) tNil))) "chance")
      (tRet (tVar 2)))) D [some (.ref e.x), some (.ref wl), a, b] H := by
  obtain ⟨⟨dx, cv, ps, rv, a1, a2, a3, a4, a5, a6⟩, ne⟩ := id hX
  have hget : (dn ++ [(k, ws)] ++ r')[dn.length]? = some (k, ws) := by
    rw [List.append_assoc, List.getElem?_append_right (Nat.le_refl _), Nat.sub_self]
    rfl
  obtain ⟨v, hv, t, wl2, rfl, ht, hwl2, _⟩ := paired_get2 a4 hget
  refine ⟨_, rfl, e.x, e.C, dx, _, _, rfl, a1, T.cl, T.nP, xf_path _ _ _ _ _ _ _, _, rfl, e.x, e.C, dx, _, _, rfl, a1, T.cl, T.nA, xf_at _ _ _ _ _ _ _, e.pl, ps, _, _, rfl, rfl, SqL.of a3, atI_nat hv, t, _, _, _, rfl, rfl, SqT.of ht, atI_0, ?_⟩
  refine ⟨_, rfl, e.x, e.C, dx, _, _, rfl, a1, T.cl, T.nA, xf_at _ _ _ _ _ _ _, _, _, rfl, rfl, dx, _, a1, xf_len _ _ _ _ _ _ _, ?_⟩
  have e0 : (V.int (((dn.length : Nat) : Int) + 1)) = V.int ((dn.length + 1 : Nat) : Int) := rfl
  rw [e0, xf_put_at]
  have nwx : wl ≠ e.x := ne_kind hw a1 (by intro z; cases z)
  have k1 := Keep.put (S := [e.x]) (List.mem_singleton.mpr rfl) a1 trivial (HO.ins e.C dx (xf e.pl (dn.length + 1) cv true false rows.length e.rl))
  have hw1 : (upd H e.x (HO.ins e.C dx (xf e.pl (dn.length + 1) cv true false rows.length e.rl))) wl = some (.lst (intsV ws)) := by rw [upd_ne nwx]; exact hw
  have x1 : (upd H e.x (HO.ins e.C dx (xf e.pl (dn.length + 1) cv true false rows.length e.rl))) e.x = some (HO.ins e.C dx (xf e.pl (dn.length + 1) cv true false rows.length e.rl)) := upd_same
  have c1 := a2.keep k1
  have xx := hX.inst k1 x1 c1
  have k1' : Keep [e.x, e.pl] H (upd H e.x (HO.ins e.C dx (xf e.pl (dn.length + 1) cv true false rows.length e.rl))) := k1.mono fun b hb => by rw [List.mem_singleton.mp hb]; simp
  clear k1
  revert hw1 x1 c1 xx k1'
  generalize upd H e.x (HO.ins e.C dx (xf e.pl (dn.length + 1) cv true false rows.length e.rl)) = H1
  intro hw1 x1 c1 xx k1
  have wk : ws.getD k 0 ≤ ws.sum := getD_le_sum ws k
  refine ⟨_, rfl, e.x, e.C, dx, _, _, rfl, x1, T.cl, T.nC, xf_chance _ _ _ _ _ _ _, ?_⟩
  refine ⟨_, rfl, _, rfl, wl, _, _, _, rfl, rfl, SqL.of hw1, atI_nat (intsV_get hk), _, rfl, wl, _, rfl, by rw [← intsV_ints]; exact SqL.of hw1, ?_⟩
  rw [ints_sum]
  refine ⟨ws.getD k 0, ws.sum, rfl, hs0, by omega, fun t2 ht2 => ?_⟩
  have k2 : Keep [] H1 (upd H1 t2 (.tup (frL (fr (ws.getD k 0) ws.sum)))) := Keep.new ht2 _
  have m1 : den dn * ws.sum ≤ 1000000 * 1000 := Nat.mul_le_mul hd1 hs1
  refine ⟨cv, .ref t2, num dn, den dn, ws.getD k 0, ws.sum, rfl, c1.keep k2, isFr_new upd_same, hd0, hs0, by omega, by omega, fun t3 ht3 => ?_⟩
  have k3 : Keep [] (upd H1 t2 (.tup (frL (fr (ws.getD k 0) ws.sum)))) (upd (upd H1 t2 (.tup (frL (fr (ws.getD k 0) ws.sum)))) t3 (.tup (frL (fr (num dn * ws.getD k 0) (den dn * ws.sum))))) := Keep.new ht3 _
  have s3 := k2.same.trans k3.same
  have x3 := s3 _ _ x1
  have xx3 := XOk.same s3 xx
  have f3 : IsFr K (upd (upd H1 t2 (.tup (frL (fr (ws.getD k 0) ws.sum)))) t3 (.tup (frL (fr (num dn * ws.getD k 0) (den dn * ws.sum))))) (.ref t3) (fr (num dn * ws.getD k 0) (den dn * ws.sum)) := isFr_new upd_same
  have k13 : Keep [e.x, e.pl] H (upd (upd H1 t2 (.tup (frL (fr (ws.getD k 0) ws.sum)))) t3 (.tup (frL (fr (num dn * ws.getD k 0) (den dn * ws.sum))))) := k1.trans (Keep.of_same s3)
  clear k2 k3 s3
  revert x3 xx3 f3 k13
  generalize upd (upd H1 t2 (.tup (frL (fr (ws.getD k 0) ws.sum)))) t3 (.tup (frL (fr (num dn * ws.getD k 0) (den dn * ws.sum)))) = H3
  intro x3 xx3 f3 k13
  refine ⟨_, rfl, e.x, e.C, dx, _, rfl, x3, T.cl, T.nC, xf_len _ _ _ _ _ _ _, ?_⟩
  rw [xf_put_chance]
  have k4 := Keep.put (S := [e.x]) (List.mem_singleton.mpr rfl) x3 trivial (HO.ins e.C dx (xf e.pl (dn.length + 1) (.ref t3) true false rows.length e.rl))
  refine ⟨_, rfl, q _ (k13.trans (k4.mono fun b hb => by rw [List.mem_singleton.mp hb]; simp)) ?_⟩
  have hfin := xx3.inst (op' := true) (ov' := false) (at' := dn.length + 1) k4 upd_same (f3.keep k4)
  rw [num_snoc, den_snoc, List.length_append]
  exact hfin
theorem scXPick : FnScope ["self", "weights", "number", "first"] ["self", "weights"] (defScope sXPick) := ⟨rfl, rfl, rfl, by decide +kernel, rfl, by decide +kernel, by decide +kernel⟩
theorem ok_xPick {f : Addr} {fd : FuncData} (F : Fun K "pick" "Explorer.pick" sXPick f fd) (T : XTxt K C) (hL : Has P w K mg base "lowest" 1 ["p", "q"] spLowest) (hT : Has P w K mg base "times" 2 ["a", "b"] (spTimes K))
    (gLen : mg "len" = none) (gRange : mg "range" = none) (gList : mg "list" = none) (gSum : mg "sum" = none) : FnOk P w K mg base CX0 3 f fd ["self", "weights"] (spXPick K C) := by
  obtain ⟨fL, dL, mL, GL, bL, kL⟩ := hL
  obtain ⟨fT, dT, mT, GT, bT, kT⟩ := hT
  refine F.ok scXPick (fun vs H Q E h => ?_) (fun cdv A outer s H vs Q E hr h => ?_)
  · obtain ⟨e, n, dn, r, wl, ws, rows, _, rfl, _⟩ := h
    rfl
  obtain ⟨e, n, dn, r, wl, ws, rows, rfl, rfl, hX, hw, nwp, hs0, hl3, hs1, hfit, hn1, hd0, hd1, hdl, hrl, hno, q⟩ := h
  have hr1 : Room 1 _ := hr.mono (by decide)
  refine ⟨_, pss_cons (ps_if (pt_cmpR op_eq (pe_fld (pv 0) rfl) (pe_callB call_len_seq (by rfl) gLen PySem.boot_len (pa_cons (pe_fld (pv 0) rfl) pa_nil)) (nomark _))
      (pss_cons (ps_set (i := 3) scXPick.nd rfl (Or.inl rfl) (pe_ix ix_list (pe_lc (own := [("number", 2)]) (g := gName 2) (tt := tTest (tOp (rI0 fun i j => .bl (decide (j < i))) (tOp (rIxL K) (tVar 1) (tVar 2)) (tC (.int 0)))) rfl scXPick.nd (pi_range1 rfl gRange (pa_cons (pe_callB call_len_seq (by rfl) gLen PySem.boot_len (pa_cons (pv 1) pa_nil)) pa_nil))
          (blkOk_by (N := ["self", "weights", "number", "first"]) (sc := defScope sXPick) (by decide +kernel)) (fun _ _ _ _ _ => pg_name (i := 2) scXPick.nd rfl (Or.inl rfl)) (fun _ _ _ _ _ => pts_one (pt_cmpR op_gt (pe_ix ix_list (pv 1) (pv 2) (fun _ _ => rfl)) pe_int (nomark _))) (fun _ _ _ _ _ => pv 2)) pe_int (fun _ _ => rfl)))
      (pss_one (ps_expr (pe_bm PySem.F.plainAttrs_list PySem.F.slot_list_append PySem.F.type_list_append mt_append (pe_fld (pv 0) rfl) (pa_cons (pe_tup (pa_cons (pv 3) (pa_cons (pe_callTy call_list_of (by rfl) gList (by decide +kernel) (pa_cons (pv 1) pa_nil)) pa_nil))) pa_nil))))) pss_nil)
    (pss_cons (ps_set (i := 2) scXPick.nd rfl (Or.inl rfl) (pe_ix ix_tup (pe_ix ix_list (pe_fld (pv 0) rfl) (pe_fld (pv 0) rfl) (fun _ _ => rfl)) pe_int (fun _ _ => rfl)))
    (pss_cons (ps_fldaug (pv 0) pe_int in_add)
    (pss_cons (ps_fld (pv 0) (pe_call GT hr rfl mT kT bT .nil pass0 (pa_cons (pe_fld (pv 0) rfl) (pa_cons (pe_call GL hr1 rfl mL kL bL .nil pass0 (pa_cons (pe_ix ix_list (pv 1) (pv 2) (fun _ _ => rfl)) (pa_cons (pe_callB (cr_sum rfl) (by rfl) gSum (by decide +kernel) (pa_cons (pv 1) pa_nil)) pa_nil))) pa_nil))) rfl)
    (pss_one (ps_ret (pv 2)))))), ?_⟩
  obtain ⟨⟨dx, cv, ps, rv, a1, a2, a3, a4, a5, a6⟩, ne⟩ := id hX
  have plen := steps_len a4
  refine ⟨_, rfl, e.x, e.C, dx, _, _, rfl, a1, T.cl, T.nA, xf_at _ _ _ _ _ _ _, _, rfl, e.x, e.C, dx, _, _, rfl, a1, T.cl, T.nP, xf_path _ _ _ _ _ _ _, e.pl, ps, rfl, .inl (SqL.of a3), rfl, _, rfl, ?_⟩
  rw [plen, List.length_append]
  refine ite2 (fun c => ?_) (fun c => ?_)
  case refine_2 =>
    cases r with
    | nil =>
      exfalso
      refine c (decide_eq_true ?_)
      rfl
    | cons s r0 =>
      obtain ⟨k, vs⟩ := s
      obtain ⟨rfl, hk, hp⟩ := hfit
      have hX' : XOk K H n e true false dn.length (fr (num dn) (den dn)) (dn ++ [(k, vs)] ++ r0) rows := by
        rw [List.append_assoc]
        exact hX
      exact tail_pick T hX' hw hk hs0 hs1 hn1 hd0 hd1 fun H' k1 hx => q H' k r0 ⟨rfl, rfl⟩ hk hp k1 hx
  cases r with
  | cons s r0 =>
    exfalso
    have c2 : V.int ((dn.length : Nat) : Int) = V.int ((dn.length + (s :: r0).length : Nat) : Int) := of_decide_eq_true c
    have c3 := V.int.inj c2
    rw [List.length_cons] at c3
    omega
  | nil =>
    obtain ⟨f1, f2, f3⟩ := first_pos hs0
    refine ⟨_, rfl, wl, _, rfl, .inl (SqL.of hw), _, rfl, by omega, ?_, ?_⟩
    · rw [intsV_len]
      omega
    refine fun D hD => lc_range (lo := 0) (n := (intsV ws).length) (fun i H' => Same H H' ∧ H' D = some (.lst (intsV ((List.range i).filter (pos ws))))) ⟨Same.new hD _, upd_same⟩ ?_ ?_
    · rintro i H' hi ⟨sm, hD'⟩
      rw [intsV_len] at hi
      have ei : (0 : Int) + ((i : Nat) : Int) = ((i : Nat) : Int) := by omega
      refine ⟨rfl, _, rfl, _, rfl, wl, _, _, _, rfl, rfl, SqL.of (sm _ _ hw), at_of ei (intsV_get hi), _, _, rfl, rfl, _, rfl, ?_⟩
      have e2 : decide ((0 : Int) < ((ws.getD i 0 : Nat) : Int)) = pos ws i := by
        unfold pos
        exact decide_eq_decide.mpr ⟨fun h => by omega, fun h => by omega⟩
      rw [e2, List.range_succ, List.filter_append]
      cases ep : pos ws i with
      | true =>
        refine iteT ⟨_, rfl, _, hD', ?_, Same.put sm hD _, ?_⟩
        · rw [intsV_len]
          refine Nat.lt_of_le_of_lt (List.length_filter_le _ _) ?_
          rw [List.length_range]
          exact small1000 (by omega)
        · rw [upd_same, List.filter_cons, ep, ei]
          unfold intsV
          rw [List.map_append]
          rfl
      | false =>
        refine iteF ⟨sm, ?_⟩
        rw [hD', List.filter_cons, ep]
        show _ = some (HO.lst (intsV (_ ++ [])))
        rw [List.append_nil]
    rintro H1 ⟨sm, hD'⟩
    rw [intsV_len] at hD'
    have hfirst : (intsV ((List.range ws.length).filter (pos ws)))[0]? = some (.int ((first ws : Nat) : Int)) := by
      have e3 : ((List.range ws.length).filter (pos ws)).head? = some (first ws) := by
        rw [List.head?_filter, ← range'_range]
        exact f1
      unfold intsV
      rw [List.getElem?_map, ← List.head?_eq_getElem?, e3]
      rfl
    have hX1 := XOk.same sm hX
    obtain ⟨⟨dx1, cv1, ps1, rv1, b1, b2, b3, b4, b5, b6⟩, _⟩ := id hX1
    have plen1 := steps_len b4
    refine ⟨D, _, _, _, rfl, rfl, SqL.of hD', atI_nat (j := 0) hfirst, ?_⟩
    refine ⟨_, rfl, e.x, e.C, dx1, _, _, rfl, b1, T.cl, T.nP, xf_path _ _ _ _ _ _ _, .inl ⟨rfl, _, SqL.of b3⟩, _, rfl, _, rfl, wl, _, rfl, .inl (SqL.of (sm _ _ hw)), fun wl2 hwl2 => ⟨(by show 2 ≤ sizeLine; decide), fun t ht => ?_⟩⟩
    have np1 : e.pl ≠ wl2 := ne_of_none b3 hwl2
    have nr1 : e.rl ≠ wl2 := ne_of_none b5 hwl2
    have hnw : wl2 ∉ e.no := fun m => by
      obtain ⟨o, ho⟩ := hno wl2 m
      rw [sm _ _ ho] at hwl2
      cases hwl2
    have s1 : Same H1 (upd H1 wl2 (.lst (intsV ws))) := Same.new hwl2 _
    have s2 : Same (upd H1 wl2 (.lst (intsV ws))) (upd (upd H1 wl2 (.lst (intsV ws))) t (.tup [.int ((first ws : Nat) : Int), .ref wl2])) := Same.new ht _
    have s12 := s1.trans s2
    have hwl2' := s2 _ _ (upd_same (H := H1) (a := wl2) (o := .lst (intsV ws)))
    have ht' : (upd (upd H1 wl2 (.lst (intsV ws))) t (.tup [.int ((first ws : Nat) : Int), .ref wl2])) t = some (.tup [.int ((first ws : Nat) : Int), .ref wl2]) := upd_same
    have hX2 := XOk.same s12 hX1
    have p2 := s12 _ _ b3
    have b4' := StepsV.keep (Keep.of_same (S := []) s12) b4 (by simp)
    have hw2 := s12 _ _ (sm _ _ hw)
    have kk : Keep [e.x, e.pl] H (upd (upd H1 wl2 (.lst (intsV ws))) t (.tup [.int ((first ws : Nat) : Int), .ref wl2])) := Keep.of_same (sm.trans s12)
    clear s1 s2 s12
    revert hwl2' ht' hX2 p2 b4' hw2 kk
    generalize upd (upd H1 wl2 (.lst (intsV ws))) t (.tup [.int ((first ws : Nat) : Int), .ref wl2]) = H2
    intro hwl2' ht' hX2 p2 b4' hw2 kk
    refine ⟨e.pl, _, _, rfl, rfl, p2, ?_, ?_⟩
    · rw [plen1, List.append_nil]
      exact small1000 (by omega)
    have k3 := Keep.put (S := [e.pl]) (List.mem_singleton.mpr rfl) p2 trivial (HO.lst (ps1 ++ [.ref t]))
    have hX3 : XOk K (upd H2 e.pl (HO.lst (ps1 ++ [.ref t]))) n e true false dn.length (fr (num dn) (den dn)) (dn ++ [(first ws, ws)] ++ []) rows := by
      refine hX2.path k3 upd_same ?_
      rw [List.append_nil]
      rw [List.append_nil] at b4'
      exact paired_snoc (StepsV.keep k3 b4' fun b hb => .inl (List.mem_singleton.mp hb)) ⟨t, wl2, rfl, k3.tup _ _ ht', by rw [upd_ne (Ne.symm np1)]; exact hwl2', Ne.symm np1, Ne.symm nr1, hnw⟩
    have hw3 : (upd H2 e.pl (HO.lst (ps1 ++ [.ref t]))) wl = some (.lst (intsV ws)) := by rw [upd_ne nwp]; exact hw2
    exact tail_pick T hX3 hw3 f2 hs0 hs1 hn1 hd0 hd1 fun H' k1 hx => q H' (first ws) [] ⟨rfl, rfl⟩ f2 f3 ((kk.trans (k3.mono fun b hb => by rw [List.mem_singleton.mp hb]; simp)).trans k1) hx
end
end Fd
/-! number_at, the tape. -/
namespace Fd
open PySem PySem.Spec PyProof.Rows L2
theorem nAt_eq : ∀ {ws : List Nat} {i p : Nat}, i < ws.length → (ws.take i).sum ≤ p → p < (ws.take i).sum + ws.getD i 0 → nAt ws p = i
  | [], i, p, h, _, _ => by simp at h
  | w :: r, 0, p, _, _, h => by
    have h : p < 0 + w := h
    unfold nAt
    rw [if_pos (by omega)]
  | w :: r, i + 1, p, hi, h1, h2 => by
    rw [List.take_succ_cons, List.sum_cons] at h1 h2
    have h2' : p < w + (r.take i).sum + r.getD i 0 := h2
    unfold nAt
    rw [if_neg (by omega), nAt_eq (ws := r) (i := i) (p := p - w) (by rw [List.length_cons] at hi; omega) (by omega) (by omega)]
theorem getD_at {ws : List Nat} {i : Nat} (h : i < ws.length) : ws[i]? = some (ws.getD i 0) := by
  rw [List.getD_eq_getElem?_getD, List.getElem?_eq_getElem h]
  rfl
theorem sum_take_next {ws : List Nat} {i : Nat} (h : i < ws.length) : (ws.take (i + 1)).sum = (ws.take i).sum + ws.getD i 0 := by
  rw [take_next (getD_at h), List.sum_append]
  simp
def tf (nl : Addr) (a : Nat) : List (Str × V) := [("numbers", V.ref nl), ("at", V.int (a : Nat))]
theorem tf_numbers (nl : Addr) (a : Nat) : (tf nl a).lookup ("numbers" : Str) = some (V.ref nl) := by
  unfold tf
  rw [lk_yes]
theorem tf_at (nl : Addr) (a : Nat) : (tf nl a).lookup ("at" : Str) = some (V.int (a : Nat)) := by
  unfold tf
  rw [lk_no (by decide +kernel), lk_yes]
theorem tf_put_at (nl : Addr) (a a' : Nat) : putF "at" (V.int (a' : Nat)) (tf nl a) = tf nl a' := by
  unfold tf
  rw [pf_no (by decide +kernel), pf_yes]
theorem tf_no_pick (nl : Addr) (a : Nat) : (tf nl a).lookup ("pick" : Str) = none := by
  unfold tf
  rw [lk_no (by decide +kernel), lk_no (by decide +kernel)]
  rfl
structure TTxt (K : PySem.W.Frag) (C : Addr) : Prop where
  cl : Cls K C
  nN : NoAttr K C "numbers"
  nA : NoAttr K C "at"
structure TOk (H : Hp) (C x nl : Addr) (ns : List Nat) (a : Nat) : Prop where
  ex : ∃ dx, H x = some (.ins C dx (tf nl a))
  nums : H nl = some (.lst (intsV ns))
def spNumAt (K : PySem.W.Frag) : Sp := fun vs H Q _ => ∃ (wl : Addr) (ws : List Nat) (p : Nat), vs = [.ref wl, .int (p : Nat)] ∧ SqL K H wl (intsV ws) ∧ p < ws.sum ∧ ∀ H', Same H H' → Q (.int (nAt ws p : Nat)) H'
def spTInit (K : PySem.W.Frag) (C : Addr) : Sp := fun vs H Q _ => ∃ (x dx l : Addr) (ns : List Nat), vs = [.ref x, .ref l] ∧ H x = some (.ins C dx []) ∧ SqL K H l (intsV ns) ∧
  ∀ (H' : Hp) (nl : Addr), Keep [x] H H' → H nl = none → TOk H' C x nl ns 0 → Q .non H'
def spTPick (K : PySem.W.Frag) (C : Addr) : Sp := fun vs H Q _ => ∃ (x nl wl : Addr) (ns ws : List Nat) (a : Nat), vs = [.ref x, .ref wl] ∧ TOk H C x nl ns a ∧ H wl = some (.lst (intsV ws)) ∧ 0 < ws.sum ∧ 
  ∀ H', Keep [x] H H' → TOk H' C x nl ns (a + 1) → Q (.int (nAt ws (ns.getD a 0 % ws.sum) : Nat)) H'
section
variable {P : Program} {w : World} {K : PySem.W.Frag} {mg : Str → Option Value} {base : Heap} {C : Addr}
theorem scNumAt : FnScope ["weights", "place", "total", "number", "weight"] ["weights", "place"] (defScope sNumAt) := ⟨rfl, rfl, rfl, by decide +kernel, rfl, by decide +kernel, by decide +kernel⟩
theorem ok_numAt {f : Addr} {fd : FuncData} (F : Fun K "number_at" "number_at" sNumAt f fd) (gE : mg "enumerate" = none) (gLen : mg "len" = none) : FnOk P w K mg base CX0 1 f fd ["weights", "place"] (spNumAt K) := by
  refine F.ok scNumAt (fun vs H Q E h => ?_) (fun cdv A outer s H vs Q E hr h => ?_)
  · obtain ⟨wl, ws, p, rfl, _⟩ := h
    rfl
  obtain ⟨wl, ws, p, rfl, hw, hp, q⟩ := h
  refine ⟨_, pss_cons (ps_set (i := 2) scNumAt.nd rfl (Or.inl rfl) pe_int)
    (pss_cons (ps_for PassesOwn.never rfl (pi_enum (by rfl) gE (pa_cons (pv 0) pa_nil)) (pg_tup rfl (pgs_cons (pg_name (i := 3) scNumAt.nd rfl (Or.inl rfl)) (pgs_cons (pg_name (i := 4) scNumAt.nd rfl (Or.inl rfl)) pgs_nil)))
      (pss_cons (ps_aug (i := 2) scNumAt.nd rfl (Or.inl rfl) (pv 4) ip_add) (pss_one (ps_if (pt_cmpR op_gt (pv 2) (pv 1) (nomark _)) (pss_one (ps_ret (pv 3))) pss_nil))))
    (pss_one (ps_ret (pe_op op_sub (pe_callB call_len_seq (by rfl) gLen PySem.boot_len (pa_cons (pv 0) pa_nil)) pe_int)))), ?_⟩
  refine ⟨_, rfl, wl, _, rfl, hw, for_it (walk_enum (K := K) (a := wl) (xs := intsV ws)) (fun i σ H' => ∃ a b, σ = [some (.ref wl), some (.int (p : Nat)), some (.int ((ws.take i).sum : Nat)), a, b] ∧ Same H H' ∧ (ws.take i).sum ≤ p)
    ⟨none, none, rfl, Same.refl H, Nat.zero_le _⟩ (fun i σ H' _ ⟨_, _, _, sm, _⟩ => sm.seq hw) ?_ ?_⟩
  · rintro i x σ H' H2 hi ⟨a, b, rfl, sm, hle⟩ ⟨T, x', y', rfl, hT, rfl, ex, ey⟩
    rw [intsV_len] at hi
    have ey : (intsV ws)[i]? = some y' := ey
    rw [intsV_get hi] at ey
    obtain rfl := Option.some.inj ex
    obtain rfl := Option.some.inj ey
    refine ⟨T, _, rfl, SqT.of upd_same, rfl, _, _, rfl, _, _, rfl, rfl, ?_⟩
    refine ⟨_, rfl, _, rfl, _, _, rfl, rfl, ?_⟩
    refine ⟨_, rfl, _, rfl, _, _, rfl, rfl, _, rfl, ?_⟩
    have es := sum_take_next hi
    have sm2 : Same H (upd H' T (.tup [.int ((i : Nat) : Int), .int ((ws.getD i 0 : Nat) : Int)])) := sm.trans (Same.new hT _)
    refine ite2 (fun c => ?_) (fun c => ?_)
    · have c2 : ((p : Nat) : Int) < (((ws.take i).sum : Nat) : Int) + ((ws.getD i 0 : Nat) : Int) := of_decide_eq_true c
      refine ⟨_, rfl, ?_⟩
      have e := nAt_eq hi hle (by omega)
      rw [← e]
      rw [← e] at sm2
      exact q _ sm2
    · have c2 : ¬ ((p : Nat) : Int) < (((ws.take i).sum : Nat) : Int) + ((ws.getD i 0 : Nat) : Int) := fun z => c (decide_eq_true z)
      refine ⟨some (.int (i : Nat)), some (.int ((ws.getD i 0 : Nat) : Int)), ?_, sm2, by rw [es]; omega⟩
      rw [es, Int.natCast_add]
      rfl
  · rintro σ H' ⟨a, b, rfl, sm, hle⟩
    exfalso
    rw [intsV_len, List.take_of_length_le (Nat.le_refl _)] at hle
    omega
theorem scTInit : FnScope ["self", "numbers"] ["self", "numbers"] (defScope sTInit) := ⟨rfl, rfl, rfl, by decide +kernel, rfl, by decide +kernel, by decide +kernel⟩
theorem ok_tInit {f : Addr} {fd : FuncData} (F : Fun K "__init__" "Tape.__init__" sTInit f fd) (T : TTxt K C) (gList : mg "list" = none) : FnOk P w K mg base CX0 1 f fd ["self", "numbers"] (spTInit K C) := by
  refine F.ok scTInit (fun vs H Q E h => ?_) (fun cdv A outer s H vs Q E hr h => ?_)
  · obtain ⟨x, dx, l, ns, rfl, _⟩ := h
    rfl
  obtain ⟨x, dx, l, ns, rfl, hx, hl, q⟩ := h
  refine ⟨_, pss_cons (ps_fld (pv 0) (pe_callTy call_list_of (by rfl) gList (by decide +kernel) (pa_cons (pv 1) pa_nil)) rfl) (pss_one (ps_fld (pv 0) pe_int rfl)), ?_⟩
  refine ⟨_, rfl, l, _, rfl, .inl hl, fun nl hnl => ?_⟩
  have nx : x ≠ nl := ne_of_none hx hnl
  have k1 : Keep [x] H (upd H nl (.lst (intsV ns))) := Keep.new hnl _
  have hx1 : (upd H nl (.lst (intsV ns))) x = some (.ins C dx []) := by rw [upd_ne nx]; exact hx
  refine ⟨_, rfl, x, C, dx, [], rfl, hx1, T.cl, T.nN, (by show 0 < 1000; decide), ?_⟩
  refine ⟨_, rfl, x, C, dx, _, rfl, upd_same, T.cl, T.nA, (by rw [pf_nil]; show 1 < 1000; decide), ?_⟩
  have e : putF "at" (V.int 0) (putF "numbers" (V.ref nl) []) = tf nl 0 := by
    rw [pf_nil (f := "numbers"), pf_no (by decide +kernel), pf_nil]
    rfl
  rw [e, upd_upd]
  have k2 := Keep.put (S := [x]) (List.mem_singleton.mpr rfl) hx1 trivial (HO.ins C dx (tf nl 0))
  exact q _ nl (k1.trans k2) hnl ⟨⟨dx, upd_same⟩, by rw [upd_ne (Ne.symm nx)]; exact upd_same⟩
theorem scTPick : FnScope ["self", "weights", "number"] ["self", "weights"] (defScope sTPick) := ⟨rfl, rfl, rfl, by decide +kernel, rfl, by decide +kernel, by decide +kernel⟩
theorem ok_tPick {f : Addr} {fd : FuncData} (F : Fun K "pick" "Tape.pick" sTPick f fd) (T : TTxt K C) (hN : Has P w K mg base "number_at" 1 ["weights", "place"] (spNumAt K)) (gLen : mg "len" = none) (gInt : mg "int" = none) (gSum : mg "sum" = none) :
    FnOk P w K mg base CX0 2 f fd ["self", "weights"] (spTPick K C) := by
  obtain ⟨fN, dN, mN, GN, bN, kN⟩ := hN
  refine F.ok scTPick (fun vs H Q E h => ?_) (fun cdv A outer s H vs Q E hr h => ?_)
  · obtain ⟨x, nl, wl, ns, ws, a, rfl, _⟩ := h
    rfl
  obtain ⟨x, nl, wl, ns, ws, a, rfl, ⟨⟨dx, hx⟩, hnl⟩, hw, hs, q⟩ := h
  refine ⟨_, pss_cons (ps_set (i := 2) scTPick.nd rfl (Or.inl rfl) (pe_ifExp (pt_cmpR op_lt (pe_fld (pv 0) rfl) (pe_callB call_len_seq (by rfl) gLen PySem.boot_len (pa_cons (pe_fld (pv 0) rfl) pa_nil)) (nomark _))
      (pe_ix ix_list (pe_fld (pv 0) rfl) (pe_fld (pv 0) rfl) (fun _ _ => rfl)) pe_int))
    (pss_cons (ps_fldaug (pv 0) pe_int in_add)
    (pss_one (ps_ret (pe_call GN hr rfl mN kN bN .nil pass0 (pa_cons (pv 1) (pa_cons (pe_op op_mod (pe_callTy call_int1 (by rfl) gInt (by decide +kernel) (pa_cons (pv 2) pa_nil)) (pe_callB (cr_sum rfl) (by rfl) gSum (by decide +kernel) (pa_cons (pv 1) pa_nil))) pa_nil)))))), ?_⟩
  have nwx : wl ≠ x := ne_kind hw hx (by intro z; cases z)
  have nlx : nl ≠ x := ne_kind hnl hx (by intro z; cases z)
  have rest : ∀ y : Int, y = ((ns.getD a 0 : Nat) : Int) → (tSeq (sFldAug K (tVar 0) (tC (.int 1)) rAdd "at") (tRet (tCall (spNumAt K) [] E0 (tCons (tVar 1) (tCons (tOp (rI (fun _ j => 0 < j) fun i j => .int (i % j)) (tCB (fun xs H Q => (∃ i, xs = [.int i] ∧ Q (.int i) H) ∨ ∃ k, xs = [.bl k] ∧ Q (.int (if k then 1 else 0)) H) (tCons (tVar 2) tNil)) (tCB (rSum K) (tCons (tVar 1) tNil))) tNil)))))
      { nx := fun _ H' => Q .non H', rt := Q } [some (.ref x), some (.ref wl), some (.int y)] H := by
    rintro y rfl
    refine ⟨_, rfl, x, C, dx, _, _, rfl, hx, T.cl, T.nA, tf_at _ _, _, _, rfl, rfl, dx, _, hx, (by show 2 < 1000; decide), ?_⟩
    have e0 : (V.int (((a : Nat) : Int) + 1)) = V.int ((a + 1 : Nat) : Int) := rfl
    rw [e0, tf_put_at]
    have k1 := Keep.put (S := [x]) (List.mem_singleton.mpr rfl) hx trivial (HO.ins C dx (tf nl (a + 1)))
    have hw1 : (upd H x (HO.ins C dx (tf nl (a + 1)))) wl = some (.lst (intsV ws)) := by rw [upd_ne nwx]; exact hw
    refine ⟨_, rfl, _, rfl, .inl ⟨_, rfl, _, rfl, wl, _, rfl, by rw [← intsV_ints]; exact SqL.of hw1, _, _, rfl, rfl, ?_⟩⟩
    rw [ints_sum]
    refine ⟨by omega, wl, ws, ns.getD a 0 % ws.sum, ?_, SqL.of hw1, Nat.mod_lt _ hs, fun H' sm => ?_⟩
    · rw [Int.natCast_emod]
      rfl
    · exact q H' (k1.trans (Keep.of_same sm)) ⟨⟨dx, sm _ _ upd_same⟩, sm _ _ (by rw [upd_ne nlx]; exact hnl)⟩
  refine ⟨_, rfl, x, C, dx, _, _, rfl, hx, T.cl, T.nA, tf_at _ _, _, rfl, x, C, dx, _, _, rfl, hx, T.cl, T.nN, tf_numbers _ _, nl, _, rfl, .inl (SqL.of hnl), _, _, rfl, rfl, _, rfl, ?_⟩
  rw [intsV_len]
  refine ite2 (fun c => ?_) (fun c => ?_)
  · have c2 : ((a : Nat) : Int) < ((ns.length : Nat) : Int) := of_decide_eq_true c
    have ha : a < ns.length := by omega
    exact ⟨_, rfl, x, C, dx, _, _, rfl, hx, T.cl, T.nN, tf_numbers _ _, _, rfl, x, C, dx, _, _, rfl, hx, T.cl, T.nA, tf_at _ _, nl, _, _, _, rfl, rfl, SqL.of hnl, atI_nat (intsV_get ha), rest _ rfl⟩
  · have c2 : ¬ ((a : Nat) : Int) < ((ns.length : Nat) : Int) := fun z => c (decide_eq_true z)
    refine rest 0 ?_
    rw [List.getD_eq_getElem?_getD, List.getElem?_eq_none (by omega)]
    rfl
end
end Fd
/-! Trees in the heap; the deed with an explorer, with a tape. -/
namespace Fd
open PySem PySem.Spec PyProof.Rows L2
def Out.good : Out → Prop
  | .i _ => True
  | .s x => (PyData.str x).canLay0 = true
  | .t _ x => (PyData.str x).canLay0 = true
/-- the tree t stands at v, all its lists being new over B -/
def TreeAt (B H : Hp) (fm : Nat) : Tr Out → V → Prop
  | .leaf o, v => o.form = fm ∧ o.good ∧ ∃ a u, v = .ref a ∧ B a = none ∧ H a = some (.lst [.str "end", u]) ∧ OutV H o u
  | .node ws kid, v => ∃ a wl c cs, v = .ref a ∧ B a = none ∧ B wl = none ∧ B c = none ∧ H a = some (.lst [.str "pick", .ref wl, .ref c]) ∧ H wl = some (.lst (intsV ws)) ∧ H c = some (.lst cs) ∧ cs.length = ws.length ∧
      ∀ k, k < ws.length → (pos ws k = true → ∃ u, cs[k]? = some u ∧ TreeAt B H fm (kid k) u) ∧ (pos ws k = false → cs[k]? = some .non)
theorem TreeAt.mono {B B' H H' : Hp} {fm : Nat} (hb : ∀ a o, B a = none → H a = some o → B' a = none ∧ H' a = some o) (ht : ∀ a xs, H a = some (.tup xs) → H' a = some (.tup xs)) : ∀ {t : Tr Out} {v : V}, TreeAt B H fm t v → TreeAt B' H' fm t v
  | .leaf o, v, ⟨f, g, a, u, e, b0, h, ho⟩ => ⟨f, g, a, u, e, (hb _ _ b0 h).1, (hb _ _ b0 h).2, by
    cases o with
    | i n => exact ho
    | s n => exact ho
    | t n x =>
      obtain ⟨a', e', h'⟩ := ho
      exact ⟨a', e', ht _ _ h'⟩⟩
  | .node ws kid, v, ⟨a, wl, c, cs, e, b1, b2, b3, h1, h2, h3, hl, hk⟩ => ⟨a, wl, c, cs, e, (hb _ _ b1 h1).1, (hb _ _ b2 h2).1, (hb _ _ b3 h3).1, (hb _ _ b1 h1).2, (hb _ _ b2 h2).2, (hb _ _ b3 h3).2, hl, fun k hlt =>
    ⟨fun hp => let ⟨u, hu, hu2⟩ := (hk k hlt).1 hp; ⟨u, hu, TreeAt.mono hb ht hu2⟩, (hk k hlt).2⟩⟩
theorem TreeAt.same {B H H' : Hp} {fm : Nat} {t : Tr Out} {v : V} (s : Same H H') (h : TreeAt B H fm t v) : TreeAt B H' fm t v := h.mono (fun a o b0 h1 => ⟨b0, s _ _ h1⟩) fun a xs h1 => s _ _ h1
theorem Same.keep {H0 H H' : Hp} {S : List Addr} (s : Same H0 H) (k : Keep S H H') (hS : ∀ b ∈ S, H0 b = none) : Same H0 H' := fun b o e => k.at_ b o (fun m => by
  rw [hS b m] at e
  cases e) (s b o e)
theorem str_end : (decide (V.str "end" = V.str "end")) = true := decide_eq_true rfl
theorem str_pick : (decide (V.str "pick" = V.str "end")) = false := by decide +kernel
/-- _law_deed(tree, explorer, path) -/
def spDeedX (C : Addr) (K : PySem.W.Frag) : Sp := fun vs H Q _ => ∃ (B H0 : Hp) (fm n d : Nat) (e : XA) (t : Tr Out) (p : Path) (rows : List (Out × Nat)) (v : V) (lp : Addr), vs = [v, .ref e.x, .ref lp] ∧ e.C = C ∧ TreeAt B H0 fm t v ∧ Same H0 H ∧
  H0 e.x = none ∧ H0 e.pl = none ∧ H0 lp = none ∧ H lp = some (.lst []) ∧ lp ≠ e.pl ∧ lp ≠ e.rl ∧ e.no = [lp] ∧ t.Ok ∧ t.Dp d ∧ d ≤ 3 ∧ Pre t p ∧ p.length ≤ 3 ∧ XOk K H n e true false 0 (1, 1) p rows ∧
  ∀ (u : V) (H' : Hp) (at_ : Nat), Keep [e.x, e.pl, lp] H H' → XOk K H' n e true false at_ (fr (num (run t p).1) (den (run t p).1)) (run t p).1 rows → OutV H' (run t p).2 u → Q u H'
/-- _law_deed(tree, tape, path) -/
def spDeedT (C : Addr) : Sp := fun vs H Q _ => ∃ (B H0 : Hp) (fm d : Nat) (x nl : Addr) (ns : List Nat) (t : Tr Out) (v : V) (lp : Addr), vs = [v, .ref x, .ref lp] ∧ TreeAt B H0 fm t v ∧ Same H0 H ∧
  H0 x = none ∧ H0 lp = none ∧ H lp = some (.lst []) ∧ lp ≠ nl ∧ t.Ok ∧ t.Dp d ∧ d ≤ 3 ∧ TOk H C x nl ns 0 ∧
  ∀ (u : V) (H' : Hp), Keep [x, lp] H H' → OutV H' (follow t ns) u → Q u H'
theorem sum_le_of {ws : List Nat} (h : ∀ w ∈ ws, w ≤ 3) : ws.sum ≤ 3 * ws.length := by
  induction ws with
  | nil => exact Nat.zero_le _
  | cons a r ih =>
    rw [List.sum_cons, List.length_cons]
    have h1 := h a List.mem_cons_self
    have h2 := ih fun w hw => h w (List.mem_cons_of_mem _ hw)
    omega
theorem getD_le3 {ws : List Nat} (h : ∀ w ∈ ws, w ≤ 3) (k : Nat) : ws.getD k 0 ≤ 3 := by
  rw [List.getD_eq_getElem?_getD]
  cases e : ws[k]? with
  | none => exact Nat.zero_le _
  | some w => exact h w (List.mem_of_getElem? e)
section
variable {P : Program} {w : World} {K : PySem.W.Frag} {mg : Str → Option Value} {base : Heap} {C : Addr}
theorem scDeed : FnScope ["_law_tree_here", "_law_dice", "_law_path", "_law_turn", "_law_number"] ["_law_tree_here", "_law_dice", "_law_path"] (defScope sDeed) := ⟨rfl, rfl, rfl, by decide +kernel, rfl, by decide +kernel, by decide +kernel⟩
theorem ok_deedX {f : Addr} {fd : FuncData} (F : Fun K "_law_deed" "_law_deed" sDeed f fd) (cl : Cls K C) (hP : HasM P w K mg base C "pick" 3 ["self", "weights"] (spXPick K C)) (gRange : mg "range" = none) (gList : mg "list" = none) :
    FnOk P w K mg base CX0 4 f fd ["_law_tree_here", "_law_dice", "_law_path"] (spDeedX C K) := by
  obtain ⟨fP, dP, mP, GP, bP⟩ := hP
  refine F.ok scDeed (fun vs H Q E h => ?_) (fun cdv A outer s H vs Q E hr h => ?_)
  · obtain ⟨B, H0, fm, n, d, e, t, p, rows, v, lp, rfl, _⟩ := h
    rfl
  obtain ⟨B, H0, fm, n, d, e, t, p, rows, v, lp, rfl, rfl, ht, s0, hx0, hp0, hl0, hlp, nlp, nlr, hno, ok, dp, hd, pre, hpl, hX, q⟩ := h
  refine ⟨_, pss_cons (ps_for PassesOwn.never rfl (pi_range1 rfl gRange (pa_cons pe_int pa_nil)) (pg_name (i := 3) scDeed.nd rfl (Or.inl rfl))
      (pss_cons (ps_if (pt_cmpR op_eq (pe_ix ix_list (pv 0) pe_int (fun _ _ => rfl)) pe_str (nomark _)) (pss_one (ps_ret (pe_ix ix_list (pv 0) pe_int (fun _ _ => rfl)))) pss_nil)
      (pss_cons (ps_set (i := 4) scDeed.nd rfl (Or.inl rfl) (pe_meth (pv 1) cl mP GP hr bP .nil pass0 (pa_cons (pe_callTy call_list_of (by rfl) gList (by decide +kernel) (pa_cons (pe_ix ix_list (pv 0) pe_int (fun _ _ => rfl)) pa_nil)) pa_nil)))
      (pss_cons (ps_expr (pe_bm PySem.F.plainAttrs_list PySem.F.slot_list_append PySem.F.type_list_append mt_append (pv 2) (pa_cons (pv 4) pa_nil)))
      (pss_one (ps_set (i := 0) scDeed.nd rfl (Or.inl rfl) (pe_ix ix_list (pe_ix ix_list (pv 0) pe_int (fun _ _ => rfl)) (pv 4) (fun _ _ => rfl))))))))
    (pss_one (ps_ret pe_non)), ?_⟩
  refine ⟨9, rfl, by decide, by decide, for_range (lo := 0) (n := 9) (fun i σ H' => ∃ (ti : Tr Out) (vi : V) (dn r : Path) (a b : Option V) (ls : List V), σ = [some vi, some (.ref e.x), some (.ref lp), a, b] ∧ TreeAt B H0 fm ti vi ∧ Same H0 H' ∧ ti.Ok ∧ ti.Dp (d - i) ∧ i ≤ d ∧ dn.length = i ∧
      Keep [e.x, e.pl, lp] H H' ∧ XOk K H' n e true false dn.length (fr (num dn) (den dn)) (dn ++ r) rows ∧ Pre ti r ∧ r.length ≤ 3 ∧ run t p = (dn ++ (run ti r).1, (run ti r).2) ∧ num dn ≤ 3 ^ i ∧ 0 < den dn ∧ den dn ≤ 9 ^ i ∧ H' lp = some (.lst ls) ∧ ls.length = i)
    ⟨t, v, [], p, none, none, [], rfl, ht, s0, ok, dp, Nat.zero_le _, rfl, Keep.refl _ H, hX, pre, hpl, rfl, Nat.le_refl _, Nat.one_pos, Nat.le_refl _, hlp, rfl⟩ ?_ ?_⟩
  · rintro i σ H' hi ⟨ti, vi, dn, r, a, b, ls, rfl, hti, s1, oki, dpi, hid, hdn, kp, hXi, prei, hri, hrun, hnu, hde0, hde, hls, hll⟩
    cases ti with
    | leaf o =>
      obtain ⟨fo, go, al, u, rfl, b0, hal, hou⟩ := hti
      have hal' := s1 _ _ hal
      refine ⟨_, rfl, al, _, _, _, rfl, rfl, SqL.of hal', atI_0, rfl, _, rfl, ?_⟩
      rw [str_end]
      refine iteT ⟨_, rfl, al, _, _, _, rfl, rfl, SqL.of hal', atI_1, ?_⟩
      have er : r = [] := by
        cases r with
        | nil => rfl
        | cons s r0 => exact prei.elim
      subst er
      have e1 : (run t p).1 = dn := by
        rw [hrun]
        show dn ++ [] = dn
        rw [List.append_nil]
      have e2 : (run t p).2 = o := by rw [hrun]; rfl
      refine q u H' dn.length kp ?_ ?_
      · rw [e1]
        rw [List.append_nil] at hXi
        exact hXi
      · rw [e2]
        exact hou.same s1
    | node ws kid =>
      obtain ⟨al, wl, c, cs, rfl, b1, b2, b3, h1, h2, h3, hcl, hk⟩ := hti
      obtain ⟨o1, o2, o3, o4⟩ := oki
      have h1' := s1 _ _ h1
      have h2' := s1 _ _ h2
      have hid2 : i < d := by
        rcases Nat.lt_or_ge i d with z | z
        · exact z
        · have z2 : d - i = 0 := by omega
          rw [z2] at dpi
          exact dpi.elim
      obtain ⟨dd, edd⟩ : ∃ dd, d - i = dd + 1 := ⟨d - i - 1, by omega⟩
      rw [edd] at dpi
      refine ⟨_, rfl, al, _, _, _, rfl, rfl, SqL.of h1', atI_0, rfl, _, rfl, ?_⟩
      rw [str_pick]
      refine iteF ?_
      obtain ⟨⟨dx, cv, ps, rv, a1, a2, a3, a4, a5, a6⟩, ne⟩ := id hXi
      refine ⟨_, rfl, e.x, dx, _, rfl, a1, xf_no_pick _ _ _ _ _ _ _, _, rfl, al, _, _, _, rfl, rfl, SqL.of h1', atI_1, wl, _, rfl, .inl (SqL.of h2'), fun w2 hw2 => ?_⟩
      have sw : Same H' (upd H' w2 (.lst (intsV ws))) := Same.new hw2 _
      have n2 : w2 ≠ e.pl := fun z => by rw [z, a3] at hw2; cases hw2
      have hXw := XOk.same sw hXi
      have i3 : i ≤ 3 := by omega
      have b3i : (3 : Nat) ^ i ≤ 3 ^ 3 := Nat.pow_le_pow_right (by decide) i3
      have b9i : (9 : Nat) ^ i ≤ 9 ^ 3 := Nat.pow_le_pow_right (by decide) i3
      have c3 : (3 : Nat) ^ 3 = 27 := by decide
      have c9 : (9 : Nat) ^ 3 = 729 := by decide
      have wsum := sum_le_of o3
      have hfits : Fits ws r := by
        cases r with
        | nil => trivial
        | cons s r0 =>
          obtain ⟨k, vs⟩ := s
          obtain ⟨x1, x2, x3, x4⟩ := prei
          exact ⟨x1, x2, x3⟩
      refine ⟨e, n, dn, r, w2, ws, rows, rfl, rfl, hXw, upd_same, n2, o1, o2, by omega, hfits, by omega, hde0, by omega, by omega, by omega, fun b hb => ⟨HO.lst ls, by rw [hno] at hb; rw [List.mem_singleton.mp hb]; exact sw _ _ hls⟩, fun H2 k r' htk hkl hkp k2 hX2 => ?_⟩
      have hln : lp ∈ e.no := by rw [hno]; exact List.mem_singleton.mpr rfl
      have l1 : H' lp = some (.lst ls) := hls
      have nlx : lp ≠ e.x := ne_kind l1 a1 (by intro z; cases z)
      have l2 : H2 lp = some (.lst ls) := k2.at_ _ _ (fun m => by
        rcases List.mem_cons.mp m with z | z
        · exact nlx z
        · exact nlp (List.mem_singleton.mp z)) (sw _ _ l1)
      have s2 : Same H0 H2 := Same.keep (s1.trans sw) k2 fun b hb => by
        rcases List.mem_cons.mp hb with z | z
        · rw [z]; exact hx0
        · rw [List.mem_singleton.mp z]; exact hp0
      refine ⟨_, rfl, .inl ⟨rfl, _, SqL.of l2⟩, _, rfl, lp, _, _, rfl, rfl, l2, small1000 (by omega), ?_⟩
      have k3 := Keep.put (S := [lp]) (List.mem_singleton.mpr rfl) l2 trivial (HO.lst (ls ++ [.int ((k : Nat) : Int)]))
      have s3 := Same.keep s2 k3 fun b hb => by rw [List.mem_singleton.mp hb]; exact hl0
      have h1'' := s3 _ _ h1
      have h3'' := s3 _ _ h3
      obtain ⟨u, hu, hut⟩ := (hk k hkl).1 hkp
      refine ⟨_, rfl, al, _, _, _, rfl, rfl, SqL.of h1'', atI_2, _, rfl, c, _, _, _, rfl, rfl, SqL.of h3'', atI_nat hu, ?_⟩
      have hXf : XOk K (upd H2 lp (HO.lst (ls ++ [.int ((k : Nat) : Int)]))) n e true false (dn ++ [(k, ws)]).length (fr (num (dn ++ [(k, ws)])) (den (dn ++ [(k, ws)]))) (dn ++ [(k, ws)] ++ r') rows := by
        obtain ⟨⟨dx3, cv3, ps3, rv3, d1, d2, d3, d4, d5, d6⟩, _⟩ := id hX2
        refine ⟨⟨dx3, cv3, ps3, rv3, by rw [upd_ne (Ne.symm nlx)]; exact d1, d2.keep k3, by rw [upd_ne (Ne.symm nlp)]; exact d3, ?_, by rw [upd_ne (Ne.symm nlr)]; exact d5, d6.keep k3⟩, ne⟩
        refine Paired.mapP d4 fun v' s' hs' => ?_
        obtain ⟨t5, w5, e5, f1, f2, f3, f4, f5⟩ := hs'
        exact ⟨t5, w5, e5, k3.tup _ _ f1, by rw [upd_ne fun z => f5 (by rw [z]; exact hln)]; exact f2, f3, f4, f5⟩
      have hprun : Pre (kid k) r' ∧ r'.length ≤ 3 ∧ run (.node ws kid) r = ((k, ws) :: (run (kid k) r').1, (run (kid k) r').2) := by
        cases r with
        | nil =>
          obtain ⟨e1, e2⟩ := htk
          subst e1 e2
          exact ⟨pre_nil _, Nat.zero_le _, rfl⟩
        | cons s r0 =>
          obtain ⟨k0, vs⟩ := s
          obtain ⟨e1, e2⟩ := htk
          subst e1 e2
          obtain ⟨x1, x2, x3, x4⟩ := prei
          rw [List.length_cons] at hri
          exact ⟨x4, by omega, rfl⟩
      refine ⟨kid k, u, dn ++ [(k, ws)], r', _, _, ls ++ [.int ((k : Nat) : Int)], rfl, hut, s3, o4 k hkp, ?_, by omega, by rw [List.length_append, hdn]; rfl, ?_, hXf, hprun.1, hprun.2.1, ?_, ?_, ?_, ?_, upd_same, by rw [List.length_append, hll]; rfl⟩
      · have z : d - (i + 1) = dd := by omega
        rw [z]
        exact dpi k hkp
      · exact ((kp.trans (Keep.of_same sw)).trans (k2.mono fun b hb => by
          rcases List.mem_cons.mp hb with z | z
          · rw [z]; simp
          · rw [List.mem_singleton.mp z]; simp)).trans (k3.mono fun b hb => by rw [List.mem_singleton.mp hb]; simp)
      · rw [hrun, hprun.2.2, List.append_assoc]
        rfl
      · rw [num_snoc, Nat.pow_succ]
        exact Nat.mul_le_mul hnu (getD_le3 o3 k)
      · rw [den_snoc]
        exact Nat.mul_pos hde0 o1
      · rw [den_snoc, Nat.pow_succ]
        exact Nat.mul_le_mul hde (by omega)
  · rintro σ H' ⟨ti, vi, dn, r, a, b, ls, _, _, _, _, _, hid, _⟩
    exfalso
    omega
end
end Fd
/-! The deed with a tape. -/
namespace Fd
open PySem PySem.Spec PyProof.Rows L2
theorem headD_drop (ns : List Nat) (i : Nat) : (ns.drop i).headD 0 = ns.getD i 0 := by
  rw [List.headD_eq_head?_getD, List.head?_drop, List.getD_eq_getElem?_getD]
theorem tail_drop (ns : List Nat) (i : Nat) : (ns.drop i).tail = ns.drop (i + 1) := by
  rw [List.tail_drop]
section
variable {P : Program} {w : World} {K : PySem.W.Frag} {mg : Str → Option Value} {base : Heap} {C : Addr}
theorem ok_deedT {f : Addr} {fd : FuncData} (F : Fun K "_law_deed" "_law_deed" sDeed f fd) (cl : Cls K C) (hP : HasM P w K mg base C "pick" 2 ["self", "weights"] (spTPick K C)) (gRange : mg "range" = none) (gList : mg "list" = none) :
    FnOk P w K mg base CX0 3 f fd ["_law_tree_here", "_law_dice", "_law_path"] (spDeedT C) := by
  obtain ⟨fP, dP, mP, GP, bP⟩ := hP
  refine F.ok scDeed (fun vs H Q E h => ?_) (fun cdv A outer s H vs Q E hr h => ?_)
  · obtain ⟨B, H0, fm, d, x, nl, ns, t, v, lp, rfl, _⟩ := h
    rfl
  obtain ⟨B, H0, fm, d, x, nl, ns, t, v, lp, rfl, ht, s0, hx0, hl0, hlp, nlp, ok, dp, hd, hT, q⟩ := h
  refine ⟨_, pss_cons (ps_for PassesOwn.never rfl (pi_range1 rfl gRange (pa_cons pe_int pa_nil)) (pg_name (i := 3) scDeed.nd rfl (Or.inl rfl))
      (pss_cons (ps_if (pt_cmpR op_eq (pe_ix ix_list (pv 0) pe_int (fun _ _ => rfl)) pe_str (nomark _)) (pss_one (ps_ret (pe_ix ix_list (pv 0) pe_int (fun _ _ => rfl)))) pss_nil)
      (pss_cons (ps_set (i := 4) scDeed.nd rfl (Or.inl rfl) (pe_meth (pv 1) cl mP GP hr bP .nil pass0 (pa_cons (pe_callTy call_list_of (by rfl) gList (by decide +kernel) (pa_cons (pe_ix ix_list (pv 0) pe_int (fun _ _ => rfl)) pa_nil)) pa_nil)))
      (pss_cons (ps_expr (pe_bm PySem.F.plainAttrs_list PySem.F.slot_list_append PySem.F.type_list_append mt_append (pv 2) (pa_cons (pv 4) pa_nil)))
      (pss_one (ps_set (i := 0) scDeed.nd rfl (Or.inl rfl) (pe_ix ix_list (pe_ix ix_list (pv 0) pe_int (fun _ _ => rfl)) (pv 4) (fun _ _ => rfl))))))))
    (pss_one (ps_ret pe_non)), ?_⟩
  refine ⟨9, rfl, by decide, by decide, for_range (lo := 0) (n := 9) (fun i σ H' => ∃ (ti : Tr Out) (vi : V) (a b : Option V) (ls : List V), σ = [some vi, some (.ref x), some (.ref lp), a, b] ∧ TreeAt B H0 fm ti vi ∧ Same H0 H' ∧ ti.Ok ∧ ti.Dp (d - i) ∧ i ≤ d ∧
      Keep [x, lp] H H' ∧ TOk H' C x nl ns i ∧ follow t ns = follow ti (ns.drop i) ∧ H' lp = some (.lst ls) ∧ ls.length = i)
    ⟨t, v, none, none, [], rfl, ht, s0, ok, dp, Nat.zero_le _, Keep.refl _ H, hT, rfl, hlp, rfl⟩ ?_ ?_⟩
  · rintro i σ H' hi ⟨ti, vi, a, b, ls, rfl, hti, s1, oki, dpi, hid, kp, hTi, hfo, hls, hll⟩
    cases ti with
    | leaf o =>
      obtain ⟨fo, go, al, u, rfl, b0, hal, hou⟩ := hti
      have hal' := s1 _ _ hal
      refine ⟨_, rfl, al, _, _, _, rfl, rfl, SqL.of hal', atI_0, rfl, _, rfl, ?_⟩
      rw [str_end]
      refine iteT ⟨_, rfl, al, _, _, _, rfl, rfl, SqL.of hal', atI_1, ?_⟩
      refine q u H' kp ?_
      rw [hfo]
      exact hou.same s1
    | node ws kid =>
      obtain ⟨al, wl, c, cs, rfl, b1, b2, b3, h1, h2, h3, hcl, hk⟩ := hti
      obtain ⟨o1, o2, o3, o4⟩ := oki
      have h1' := s1 _ _ h1
      have h2' := s1 _ _ h2
      have hid2 : i < d := by
        rcases Nat.lt_or_ge i d with z | z
        · exact z
        · have z2 : d - i = 0 := by omega
          rw [z2] at dpi
          exact dpi.elim
      obtain ⟨dd, edd⟩ : ∃ dd, d - i = dd + 1 := ⟨d - i - 1, by omega⟩
      rw [edd] at dpi
      refine ⟨_, rfl, al, _, _, _, rfl, rfl, SqL.of h1', atI_0, rfl, _, rfl, ?_⟩
      rw [str_pick]
      refine iteF ?_
      obtain ⟨⟨dx, hx⟩, hnl⟩ := id hTi
      refine ⟨_, rfl, x, dx, _, rfl, hx, tf_no_pick _ _, _, rfl, al, _, _, _, rfl, rfl, SqL.of h1', atI_1, wl, _, rfl, .inl (SqL.of h2'), fun w2 hw2 => ?_⟩
      have sw : Same H' (upd H' w2 (.lst (intsV ws))) := Same.new hw2 _
      refine ⟨x, nl, w2, ns, ws, i, rfl, ⟨⟨dx, sw _ _ hx⟩, sw _ _ hnl⟩, upd_same, o1, fun H2 k2 hT2 => ?_⟩
      have nlx : lp ≠ x := ne_kind hls hx (by intro z; cases z)
      have l2 : H2 lp = some (.lst ls) := k2.at_ _ _ (fun m => nlx (List.mem_singleton.mp m)) (sw _ _ hls)
      have s2 : Same H0 H2 := Same.keep (s1.trans sw) k2 fun b hb => by rw [List.mem_singleton.mp hb]; exact hx0
      refine ⟨_, rfl, .inl ⟨rfl, _, SqL.of l2⟩, _, rfl, lp, _, _, rfl, rfl, l2, small1000 (by omega), ?_⟩
      obtain ⟨n1, n2⟩ := nAt_pos (Nat.mod_lt (ns.getD i 0) o1)
      generalize ek : nAt ws (ns.getD i 0 % ws.sum) = k at n1 n2 ⊢
      have hkp : pos ws k = true := decide_eq_true n1
      have k3 := Keep.put (S := [lp]) (List.mem_singleton.mpr rfl) l2 trivial (HO.lst (ls ++ [.int ((k : Nat) : Int)]))
      have s3 := Same.keep s2 k3 fun b hb => by rw [List.mem_singleton.mp hb]; exact hl0
      have h1'' := s3 _ _ h1
      have h3'' := s3 _ _ h3
      obtain ⟨u, hu, hut⟩ := (hk k n2).1 hkp
      refine ⟨_, rfl, al, _, _, _, rfl, rfl, SqL.of h1'', atI_2, _, rfl, c, _, _, _, rfl, rfl, SqL.of h3'', atI_nat hu, ?_⟩
      obtain ⟨⟨dx2, hx2⟩, hnl2⟩ := hT2
      refine ⟨kid k, u, _, _, ls ++ [.int ((k : Nat) : Int)], rfl, hut, s3, o4 k hkp, ?_, by omega, ?_, ⟨⟨dx2, by rw [upd_ne (Ne.symm nlx)]; exact hx2⟩, by rw [upd_ne (Ne.symm nlp)]; exact hnl2⟩, ?_, upd_same, by rw [List.length_append, hll]; rfl⟩
      · have z : d - (i + 1) = dd := by omega
        rw [z]
        exact dpi k hkp
      · exact ((kp.trans (Keep.of_same sw)).trans (k2.mono fun b hb => by rw [List.mem_singleton.mp hb]; simp)).trans (k3.mono fun b hb => by rw [List.mem_singleton.mp hb]; simp)
      · rw [hfo]
        show follow (kid (nAt ws ((ns.drop i).headD 0 % ws.sum))) (ns.drop i).tail = _
        rw [headD_drop, tail_drop, ek]
  · rintro σ H' ⟨ti, vi, a, b, ls, _, _, _, _, _, hid, _⟩
    exfalso
    omega
end
end Fd
/-! The law's helpers: the deck, draws, Euclid, powers. -/
namespace Fd
open PySem PySem.Spec PyProof.Rows L2
/-- the deck stands at d, its cells at c -/
def DeckAt (H : Hp) (d c : Addr) : Prop := ∃ (ns : List Int) (i : Nat) (j k : Int), H d = some (.lst [.ref c, .int (i : Nat), .int j, .int k]) ∧ H c = some (.lst (ns.map V.int)) ∧ c ≠ d
theorem DeckAt.keep {S : List Addr} {H H' : Hp} {d c : Addr} (k : Keep S H H') (h : DeckAt H d c) (hd : d ∉ S) (hc : c ∉ S) : DeckAt H' d c :=
  let ⟨ns, i, j, k', h1, h2, h3⟩ := h; ⟨ns, i, j, k', k.at_ _ _ hd h1, k.at_ _ _ hc h2, h3⟩
theorem DeckAt.same {H H' : Hp} {d c : Addr} (k : Same H H') (h : DeckAt H d c) : DeckAt H' d c := h.keep (Keep.of_same (S := []) k) (by simp) (by simp)
theorem DeckAt.there {H : Hp} {d c : Addr} (h : DeckAt H d c) : H d ≠ none ∧ H c ≠ none := by
  obtain ⟨ns, i, j, k, h1, h2, _⟩ := h
  exact ⟨fun z => (by rw [z] at h1; cases h1), fun z => (by rw [z] at h2; cases h2)⟩
/-- an int modulo a natural -/
theorem emod_nat (x : Int) {m : Nat} (hm : 0 < m) : ∃ v : Nat, x % ((m : Nat) : Int) = ((v : Nat) : Int) ∧ v < m := by
  have h1 : 0 ≤ x % ((m : Nat) : Int) := Int.emod_nonneg _ (by omega)
  have h2 : x % ((m : Nat) : Int) < ((m : Nat) : Int) := Int.emod_lt_of_pos _ (by omega)
  exact ⟨(x % ((m : Nat) : Int)).toNat, by omega, by omega⟩
def spDeck (K : PySem.W.Frag) : Sp := fun vs H Q _ => ∃ (a : Addr) (ns : List Int), vs = [.ref a] ∧ SqL K H a (ns.map V.int) ∧ ∀ (d c : Addr) (H' : Hp), Same H H' → H d = none → H c = none → DeckAt H' d c → Q (.ref d) H'
def spDraw : Sp := fun vs H Q _ => ∃ (d c : Addr) (m : Nat), vs = [.ref d, .int (m : Nat)] ∧ 0 < m ∧ m < 1073741824 ∧ DeckAt H d c ∧ ∀ (v : Nat) (H' : Hp), v < m → Keep [d] H H' → DeckAt H' d c → Q (.int (v : Nat)) H'
def spShared : Sp := fun vs H Q _ => ∃ a b : Nat, vs = [.int (a : Nat), .int (b : Nat)] ∧ b ≤ 4000 ∧ Q (.int (Nat.gcd a b : Nat)) H
def spLow : Sp := fun vs H Q _ => ∃ a b : Nat, vs = [.int (a : Nat), .int (b : Nat)] ∧ 0 < b ∧ b ≤ 4000 ∧ ∀ t, H t = none → Q (.ref t) (upd H t (.tup (frL (fr a b))))
def spPower : Sp := fun vs H Q _ => ∃ a b : Nat, vs = [.int (a : Nat), .int (b : Nat)] ∧ a ≤ 4000 ∧ b ≤ 3 ∧ Q (.int ((a ^ b : Nat) : Int)) H
section
variable {P : Program} {w : World} {K : PySem.W.Frag} {mg : Str → Option Value} {base : Heap}
theorem scDeck : FnScope ["_law_script"] ["_law_script"] (defScope sDeck) := ⟨rfl, rfl, rfl, by decide +kernel, rfl, by decide +kernel, by decide +kernel⟩
theorem ok_deck {f : Addr} {fd : FuncData} (F : Fun K "_law_deck" "_law_deck" sDeck f fd) (gList : mg "list" = none) : FnOk P w K mg base CX0 1 f fd ["_law_script"] (spDeck K) := by
  refine F.ok scDeck (fun vs H Q E h => ?_) (fun cdv A outer s H vs Q E hr h => ?_)
  · obtain ⟨a, ns, rfl, _⟩ := h
    rfl
  obtain ⟨a, ns, rfl, ha, q⟩ := h
  refine ⟨_, pss_one (ps_ret (pe_lst (pa_cons (pe_callTy call_list_of (by rfl) gList (by decide +kernel) (pa_cons (pv 0) pa_nil)) (pa_cons pe_int (pa_cons pe_int (pa_cons pe_int pa_nil)))))), ?_⟩
  refine ⟨_, rfl, a, _, rfl, .inl ha, fun c hc => ⟨(by show 4 ≤ sizeLine; decide), fun d hd => ?_⟩⟩
  have ncd : c ≠ d := ne_of_none upd_same hd
  have hd0 : H d = none := by
    rw [upd_ne (Ne.symm ncd)] at hd
    exact hd
  exact q d c _ ((Same.new hc _).trans (Same.new hd _)) hd0 hc ⟨ns, 0, 0, 7, upd_same, by rw [upd_ne ncd]; exact upd_same, ncd⟩
theorem scDraw : FnScope ["_law_deck_here", "_law_most", "_law_value", "_law_cell"] ["_law_deck_here", "_law_most"] (defScope sDraw) := ⟨rfl, rfl, rfl, by decide +kernel, rfl, by decide +kernel, by decide +kernel⟩
theorem ok_draw {f : Addr} {fd : FuncData} (F : Fun K "_law_draw" "_law_draw" sDraw f fd) (gInt : mg "int" = none) (gLen : mg "len" = none) : FnOk P w K mg base CX0 1 f fd ["_law_deck_here", "_law_most"] spDraw := by
  refine F.ok scDraw (fun vs H Q E h => ?_) (fun cdv A outer s H vs Q E hr h => ?_)
  · obtain ⟨d, c, m, rfl, _⟩ := h
    rfl
  obtain ⟨d, c, m, rfl, hm, hm2, ⟨ns, i, j, k, h1, h2, ncd⟩, q⟩ := h
  refine ⟨_, pss_cons (ps_if (pt_cmpR op_ge (pe_ix ix_list (pv 0) pe_int (fun _ _ => rfl)) (pv 1) (nomark _))
      (pss_cons (ps_set (i := 2) scDraw.nd rfl (Or.inl rfl) (pe_op op_mod (pe_callTy call_int1 (by rfl) gInt (by decide +kernel) (pa_cons (pe_ix ix_list (pv 0) pe_int (fun _ _ => rfl)) pa_nil)) (pv 1)))
      (pss_cons (ps_asg (pe_op op_fdiv (pe_ix ix_list (pv 0) pe_int (fun _ _ => rfl)) (pv 1)) (pg_sub (pv 0) pe_int set_list))
      (pss_one (ps_ret (pv 2))))) pss_nil)
    (pss_cons (ps_set (i := 3) scDraw.nd rfl (Or.inl rfl) pe_int)
    (pss_cons (ps_if (pt_cmpR op_lt (pe_ix ix_list (pv 0) pe_int (fun _ _ => rfl)) (pe_callB call_len_seq (by rfl) gLen PySem.boot_len (pa_cons (pe_ix ix_list (pv 0) pe_int (fun _ _ => rfl)) pa_nil)) (nomark _))
      (pss_one (ps_set (i := 3) scDraw.nd rfl (Or.inl rfl) (pe_ix ix_list (pe_ix ix_list (pv 0) pe_int (fun _ _ => rfl)) (pe_ix ix_list (pv 0) pe_int (fun _ _ => rfl)) (fun _ _ => rfl)))) pss_nil)
    (pss_cons (ps_asg (pe_op op_add (pe_ix ix_list (pv 0) pe_int (fun _ _ => rfl)) pe_int) (pg_sub (pv 0) pe_int set_list))
    (pss_cons (ps_asg pe_int (pg_sub (pv 0) pe_int set_list))
    (pss_cons (ps_if (pt_cmpR op_ge (pv 3) (pe_op op_pow pe_int pe_int) (nomark _))
      (pss_cons (ps_asg (pe_op op_fdiv (pv 3) (pv 1)) (pg_sub (pv 0) pe_int set_list))
      (pss_one (ps_ret (pe_op op_mod (pe_callTy call_int1 (by rfl) gInt (by decide +kernel) (pa_cons (pv 3) pa_nil)) (pv 1))))) pss_nil)
    (pss_cons (ps_asg (pe_op op_mod (pe_callTy call_int1 (by rfl) gInt (by decide +kernel) (pa_cons (pe_op op_add (pe_op op_add (pe_op op_mul (pe_ix ix_list (pv 0) pe_int (fun _ _ => rfl)) pe_int) (pe_op op_mul (pv 3) pe_int)) (pe_op op_mul (pe_ix ix_list (pv 0) pe_int (fun _ _ => rfl)) pe_int)) pa_nil)) pe_int) (pg_sub (pv 0) pe_int set_list))
    (pss_cons (ps_asg (pe_op op_mod (pe_callTy call_int1 (by rfl) gInt (by decide +kernel) (pa_cons (pe_op op_add (pe_op op_mul (pe_ix ix_list (pv 0) pe_int (fun _ _ => rfl)) pe_int) pe_int) pa_nil)) pe_int) (pg_sub (pv 0) pe_int set_list))
    (pss_one (ps_ret (pe_op op_mod (pe_callTy call_int1 (by rfl) gInt (by decide +kernel) (pa_cons (pe_op op_fdiv (pe_ix ix_list (pv 0) pe_int (fun _ _ => rfl)) pe_int) pa_nil)) (pv 1))))))))))), ?_⟩
  have hmi : (0 : Int) < ((m : Nat) : Int) := by omega
  have cd : ∀ x : Int, CDiv x ((m : Nat) : Int) := fun x => ⟨by omega, by omega⟩
  have fin : ∀ (x : Int) (i' : Nat) (j' k' : Int) (H' : Hp), Keep [d] H H' → H' d = some (.lst [.ref c, .int (i' : Nat), .int j', .int k']) → Q (.int (x % ((m : Nat) : Int))) H' := fun x i' j' k' H' kp hd => by
    obtain ⟨v, e, hv⟩ := emod_nat x hm
    rw [e]
    exact q v H' hv kp ⟨ns, i', j', k', hd, kp.at_ _ _ (fun z => ncd (List.mem_singleton.mp z)) h2, ncd⟩
  refine ⟨_, rfl, d, _, _, _, rfl, rfl, SqL.of h1, atI_2, _, rfl, _, _, rfl, rfl, _, rfl, ?_⟩
  refine ite2 (fun _ => ?_) (fun _ => ?_)
  · refine ⟨_, rfl, d, _, _, _, rfl, rfl, SqL.of h1, atI_2, .inl ⟨_, rfl, _, rfl, _, _, rfl, rfl, hmi, ?_⟩⟩
    refine ⟨_, rfl, d, _, _, _, rfl, rfl, SqL.of h1, atI_2, _, rfl, _, _, rfl, rfl, cd _, _, rfl, d, _, _, 2, rfl, rfl, h1, rfl, ?_⟩
    exact ⟨_, rfl, fin _ i _ _ _ (Keep.put (List.mem_singleton.mpr rfl) h1 trivial _) upd_same⟩
  -- a new cell
  have rest : ∀ x : Int, (tSeq (tAsg (tOp (rI0 fun i j => .int (i + j)) (tOp (rIxL K) (tVar 0) (tC (.int 1))) (tC (.int 1))) (gSub (tVar 0) (tC (.int 1)) rSetL))
      (tSeq (tAsg (tC (.int 0)) (gSub (tVar 0) (tC (.int 2)) rSetL))
      (tSeq (tIfS (tTest (tOp (rI0 fun i j => .bl (decide (j ≤ i))) (tVar 3) (tOp (rI CPow fun i j => .int (i ^ j.toNat)) (tC (.int 10)) (tC (.int 18)))))
        (tSeq (tAsg (tOp (rI CDiv fun i j => .int (i / j)) (tVar 3) (tVar 1)) (gSub (tVar 0) (tC (.int 2)) rSetL))
          (tRet (tOp (rI (fun _ j => 0 < j) fun i j => .int (i % j)) (tCB (fun xs H Q => (∃ i, xs = [.int i] ∧ Q (.int i) H) ∨ ∃ k, xs = [.bl k] ∧ Q (.int (if k then 1 else 0)) H) (tCons (tVar 3) tNil)) (tVar 1)))) tNext)
      (tSeq (tAsg (tOp (rI (fun _ j => 0 < j) fun i j => .int (i % j)) (tCB (fun xs H Q => (∃ i, xs = [.int i] ∧ Q (.int i) H) ∨ ∃ k, xs = [.bl k] ∧ Q (.int (if k then 1 else 0)) H)
            (tCons (tOp (rI0 fun i j => .int (i + j)) (tOp (rI0 fun i j => .int (i + j)) (tOp (rI CMul fun i j => .int (i * j)) (tOp (rIxL K) (tVar 0) (tC (.int 3))) (tC (.int 48271))) (tOp (rI CMul fun i j => .int (i * j)) (tVar 3) (tC (.int 69621))))
              (tOp (rI CMul fun i j => .int (i * j)) (tOp (rIxL K) (tVar 0) (tC (.int 1))) (tC (.int 911)))) tNil)) (tC (.int 2147483647))) (gSub (tVar 0) (tC (.int 3)) rSetL))
      (tSeq (tAsg (tOp (rI (fun _ j => 0 < j) fun i j => .int (i % j)) (tCB (fun xs H Q => (∃ i, xs = [.int i] ∧ Q (.int i) H) ∨ ∃ k, xs = [.bl k] ∧ Q (.int (if k then 1 else 0)) H)
            (tCons (tOp (rI0 fun i j => .int (i + j)) (tOp (rI CMul fun i j => .int (i * j)) (tOp (rIxL K) (tVar 0) (tC (.int 3))) (tC (.int 48271))) (tC (.int 12345))) tNil)) (tC (.int 2147483647))) (gSub (tVar 0) (tC (.int 3)) rSetL))
        (tRet (tOp (rI (fun _ j => 0 < j) fun i j => .int (i % j)) (tCB (fun xs H Q => (∃ i, xs = [.int i] ∧ Q (.int i) H) ∨ ∃ k, xs = [.bl k] ∧ Q (.int (if k then 1 else 0)) H) (tCons (tOp (rI CDiv fun i j => .int (i / j)) (tOp (rIxL K) (tVar 0) (tC (.int 3))) (tC (.int 64))) tNil)) (tVar 1))))))))
      { nx := fun _ H' => Q .non H', rt := Q } [some (.ref d), some (.int ((m : Nat) : Int)), none, some (.int x)] H := fun x => by
    refine ⟨_, rfl, d, _, _, _, rfl, rfl, SqL.of h1, atI_1, _, _, rfl, rfl, _, rfl, d, _, _, 1, rfl, rfl, h1, rfl, ?_⟩
    have k1 : Keep [d] H (upd H d (.lst [.ref c, .int ((i + 1 : Nat) : Int), .int j, .int k])) := Keep.put (List.mem_singleton.mpr rfl) h1 trivial _
    refine ⟨_, rfl, d, _, _, 2, rfl, rfl, upd_same, rfl, ?_⟩
    rw [upd_upd]
    show (tSeq _ _) _ _ (upd H d (.lst [.ref c, .int ((i + 1 : Nat) : Int), .int 0, .int k]))
    have mulI : ∀ {y z : Int}, -(2 ^ 64) < z ∧ z < 2 ^ 64 → CMul y z := fun h => .inr h
    refine ⟨_, rfl, _, _, rfl, rfl, ⟨by decide, by decide, by decide⟩, _, _, rfl, rfl, _, rfl, ?_⟩
    refine ite2 (fun _ => ?_) (fun _ => ?_)
    · refine ⟨_, rfl, _, rfl, _, _, rfl, rfl, cd _, _, rfl, d, _, _, 2, rfl, rfl, upd_same, rfl, ?_⟩
      rw [upd_upd]
      refine ⟨_, rfl, .inl ⟨_, rfl, _, rfl, _, _, rfl, rfl, hmi, ?_⟩⟩
      exact fin _ (i + 1) _ _ _ (Keep.put (List.mem_singleton.mpr rfl) h1 trivial _) upd_same
    · refine ⟨_, rfl, d, _, _, _, rfl, rfl, SqL.of upd_same, atI_3, _, _, rfl, rfl, mulI ⟨by decide, by decide⟩, _, rfl, _, _, rfl, rfl, mulI ⟨by decide, by decide⟩, _, _, rfl, rfl, ?_⟩
      refine ⟨_, rfl, d, _, _, _, rfl, rfl, SqL.of upd_same, atI_1, _, _, rfl, rfl, mulI ⟨by decide, by decide⟩, _, _, rfl, rfl, .inl ⟨_, rfl, _, _, rfl, rfl, (by show (0 : Int) < 2147483647; decide), ?_⟩⟩
      refine ⟨_, rfl, d, _, _, 3, rfl, rfl, upd_same, rfl, ?_⟩
      rw [upd_upd]
      refine ⟨_, rfl, d, _, _, _, rfl, rfl, SqL.of upd_same, atI_3, _, _, rfl, rfl, mulI ⟨by decide, by decide⟩, _, _, rfl, rfl, .inl ⟨_, rfl, _, _, rfl, rfl, (by show (0 : Int) < 2147483647; decide), ?_⟩⟩
      refine ⟨_, rfl, d, _, _, 3, rfl, rfl, upd_same, rfl, ?_⟩
      rw [upd_upd]
      refine ⟨_, rfl, d, _, _, _, rfl, rfl, SqL.of upd_same, atI_3, _, _, rfl, rfl, ⟨by decide, by decide⟩, .inl ⟨_, rfl, _, rfl, _, _, rfl, rfl, hmi, ?_⟩⟩
      exact fin _ (i + 1) _ _ _ (Keep.put (List.mem_singleton.mpr rfl) h1 trivial _) upd_same
  refine ⟨_, rfl, d, _, _, _, rfl, rfl, SqL.of h1, atI_1, _, rfl, d, _, _, _, rfl, rfl, SqL.of h1, atI_0, c, _, rfl, .inl (SqL.of h2), _, _, rfl, rfl, _, rfl, ?_⟩
  refine ite2 (fun cc => ?_) (fun _ => ?_)
  · have c2 : ((i : Nat) : Int) < (((ns.map V.int).length : Nat) : Int) := of_decide_eq_true cc
    rw [List.length_map] at c2
    have hi : i < ns.length := by omega
    have hg : (ns.map V.int)[i]? = some (.int ns[i]) := by
      rw [List.getElem?_map, List.getElem?_eq_getElem hi]
      rfl
    exact ⟨_, rfl, d, _, _, _, rfl, rfl, SqL.of h1, atI_0, _, rfl, d, _, _, _, rfl, rfl, SqL.of h1, atI_1, c, _, _, _, rfl, rfl, SqL.of h2, atI_nat hg, rest _⟩
  · exact rest 0
end
end Fd
/-! Euclid, powers, weights. -/
namespace Fd
open PySem PySem.Spec PyProof.Rows L2
theorem gcd_step {x y : Nat} (hy : 0 < y) : Nat.gcd y (x % y) = Nat.gcd x y := by
  rw [Nat.gcd_comm x y]
  exact (Nat.gcd_rec y x).symm ▸ (Nat.gcd_comm _ _)
/-- an own object, new since H, is changed -/
theorem Keep.own {S : List Addr} {D : Addr} {H H' H'' : Hp} (a : Keep S H H') (b : Keep [D] H' H'') (h : H D = none) : Keep S H H'' :=
  ((a.mono fun b hb => List.mem_cons_of_mem D hb).trans (b.mono fun b hb => by rw [List.mem_singleton.mp hb]; exact List.mem_cons_self)).less fun b hb => by
    rcases List.mem_cons.mp hb with z | z
    · exact .inr (by rw [z]; exact h)
    · exact .inl z
def spWeights : Sp := fun vs H Q _ => ∃ (d c : Addr) (m : Nat), vs = [.ref d, .int (m : Nat)] ∧ 0 < m ∧ m ≤ 3 ∧ DeckAt H d c ∧
  ∀ (wl : Addr) (ws : List Nat) (H' : Hp), Keep [d] H H' → DeckAt H' d c → H wl = none → H' wl = some (.lst (intsV ws)) → 0 < ws.sum → ws.length ≤ 3 → (∀ w ∈ ws, w ≤ 3) → Q (.ref wl) H'
section
variable {P : Program} {w : World} {K : PySem.W.Frag} {mg : Str → Option Value} {base : Heap}
theorem scShared : FnScope ["_law_first", "_law_second", "_law_turn"] ["_law_first", "_law_second"] (defScope sShared) := ⟨rfl, rfl, rfl, by decide +kernel, rfl, by decide +kernel, by decide +kernel⟩
theorem ok_shared {f : Addr} {fd : FuncData} (F : Fun K "_law_shared" "_law_shared" sShared f fd) (gRange : mg "range" = none) (gInt : mg "int" = none) : FnOk P w K mg base CX0 1 f fd ["_law_first", "_law_second"] spShared := by
  refine F.ok scShared (fun vs H Q E h => ?_) (fun cdv A outer s H vs Q E hr h => ?_)
  · obtain ⟨a, b, rfl, _⟩ := h
    rfl
  obtain ⟨a, b, rfl, hb, q⟩ := h
  refine ⟨_, pss_cons (ps_for PassesOwn.never rfl (pi_range1 rfl gRange (pa_cons pe_int pa_nil)) (pg_name (i := 2) scShared.nd rfl (Or.inl rfl))
      (pss_cons (ps_if (pt_cmpR op_eq (pv 1) pe_int (nomark _)) (pss_one ps_break) pss_nil)
      (pss_one (ps_par (by rfl) scShared.nd (i := 0) (j := 1) rfl rfl (by decide) rfl rfl (pa_cons (pv 1) (pa_cons (pe_op op_mod (pe_callTy call_int1 (by rfl) gInt (by decide +kernel) (pa_cons (pv 0) pa_nil)) (pv 1)) pa_nil)) (by rfl)))))
    (pss_one (ps_ret (pv 0))), ?_⟩
  refine ⟨5000, rfl, by decide, by decide, for_range (lo := 0) (n := 5000) (fun i σ H' => ∃ (x y : Nat) (o : Option V), σ = [some (.int (x : Nat)), some (.int (y : Nat)), o] ∧ H' = H ∧ Nat.gcd x y = Nat.gcd a b ∧ y + i ≤ b)
    ⟨a, b, none, rfl, rfl, rfl, by omega⟩ ?_ ?_⟩
  · rintro i σ H' hi ⟨x, y, o, rfl, rfl, hg, hl⟩
    refine ⟨_, rfl, rfl, _, rfl, ?_⟩
    refine ite2 (fun c => ?_) (fun c => ?_)
    · have c2 : V.int ((y : Nat) : Int) = V.int 0 := of_decide_eq_true c
      have c3 : ((y : Nat) : Int) = 0 := V.int.inj c2
      have y0 : y = 0 := by omega
      subst y0
      refine ⟨_, rfl, ?_⟩
      rw [Nat.gcd_zero_right] at hg
      rw [hg]
      exact q
    · have hy : 0 < y := by
        rcases Nat.eq_zero_or_pos y with z | z
        · subst z
          exact (c rfl).elim
        · exact z
      refine ⟨_, rfl, _, rfl, .inl ⟨_, rfl, _, rfl, _, _, rfl, rfl, (by show (0 : Int) < ((y : Nat) : Int); omega), _, _, rfl, ?_⟩⟩
      have hlt := Nat.mod_lt x hy
      refine ⟨y, x % y, _, rfl, rfl, by rw [gcd_step hy, hg], by omega⟩
  · rintro σ H' ⟨x, y, o, rfl, rfl, hg, hl⟩
    exfalso
    omega
theorem scLow : FnScope ["_law_p", "_law_q", "_law_first", "_law_second", "_law_turn"] ["_law_p", "_law_q"] (defScope sLow) := ⟨rfl, rfl, rfl, by decide +kernel, rfl, by decide +kernel, by decide +kernel⟩
theorem abs_nat (a : Nat) : (if ((a : Nat) : Int) < 0 then -((a : Nat) : Int) else ((a : Nat) : Int)) = ((a : Nat) : Int) := if_neg (by omega)
theorem ok_low {f : Addr} {fd : FuncData} (F : Fun K "_law_low" "_law_low" sLow f fd) (gRange : mg "range" = none) (gInt : mg "int" = none) (gAbs : mg "abs" = none) : FnOk P w K mg base CX0 1 f fd ["_law_p", "_law_q"] spLow := by
  refine F.ok scLow (fun vs H Q E h => ?_) (fun cdv A outer s H vs Q E hr h => ?_)
  · obtain ⟨a, b, rfl, _⟩ := h
    rfl
  obtain ⟨a, b, rfl, hb0, hb, q⟩ := h
  refine ⟨_, pss_cons (ps_set (i := 2) scLow.nd rfl (Or.inl rfl) (pe_callB call_abs (by rfl) gAbs (by decide +kernel) (pa_cons (pv 0) pa_nil)))
    (pss_cons (ps_set (i := 3) scLow.nd rfl (Or.inl rfl) (pe_callB call_abs (by rfl) gAbs (by decide +kernel) (pa_cons (pv 1) pa_nil)))
    (pss_cons (ps_for PassesOwn.never rfl (pi_range1 rfl gRange (pa_cons pe_int pa_nil)) (pg_name (i := 4) scLow.nd rfl (Or.inl rfl))
      (pss_cons (ps_if (pt_cmpR op_eq (pv 3) pe_int (nomark _)) (pss_one ps_break) pss_nil)
      (pss_one (ps_par (by rfl) scLow.nd (i := 2) (j := 3) rfl rfl (by decide) rfl rfl (pa_cons (pv 3) (pa_cons (pe_op op_mod (pe_callTy call_int1 (by rfl) gInt (by decide +kernel) (pa_cons (pv 2) pa_nil)) (pv 3)) pa_nil)) (by rfl)))))
    (pss_cons (ps_if (pt_cmpR op_lt (pv 1) pe_int (nomark _)) (pss_one (ps_set (i := 2) scLow.nd rfl (Or.inl rfl) (pe_op op_sub pe_int (pv 2)))) pss_nil)
    (pss_one (ps_ret (pe_tup (pa_cons (pe_op op_fdiv (pv 0) (pv 2)) (pa_cons (pe_op op_fdiv (pv 1) (pv 2)) pa_nil)))))))), ?_⟩
  refine ⟨_, rfl, _, rfl, ?_⟩
  rw [abs_nat]
  refine ⟨_, rfl, _, rfl, ?_⟩
  rw [abs_nat]
  refine ⟨5000, rfl, by decide, by decide, for_range (lo := 0) (n := 5000) (fun i σ H' => ∃ (x y : Nat) (o : Option V), σ = [some (.int (a : Nat)), some (.int (b : Nat)), some (.int (x : Nat)), some (.int (y : Nat)), o] ∧ H' = H ∧ Nat.gcd x y = Nat.gcd a b ∧ y + i ≤ b)
    ⟨a, b, none, rfl, rfl, rfl, by omega⟩ ?_ ?_⟩
  · rintro i σ H' hi ⟨x, y, o, rfl, rfl, hg, hl⟩
    refine ⟨_, rfl, rfl, _, rfl, ?_⟩
    refine ite2 (fun c => ?_) (fun c => ?_)
    · have c2 : V.int ((y : Nat) : Int) = V.int 0 := of_decide_eq_true c
      have c3 : ((y : Nat) : Int) = 0 := V.int.inj c2
      have y0 : y = 0 := by omega
      subst y0
      rw [Nat.gcd_zero_right] at hg
      subst hg
      have g0 : 0 < Nat.gcd a b := Nat.gcd_pos_of_pos_right _ hb0
      have g1 : Nat.gcd a b ≤ b := Nat.le_of_dvd hb0 (Nat.gcd_dvd_right a b)
      have gi : CDiv ((a : Nat) : Int) ((Nat.gcd a b : Nat) : Int) := ⟨by omega, by omega⟩
      have gj : CDiv ((b : Nat) : Int) ((Nat.gcd a b : Nat) : Int) := ⟨by omega, by omega⟩
      refine ⟨_, rfl, _, _, rfl, rfl, _, rfl, ?_⟩
      refine ite2 (fun c => ?_) (fun _ => ?_)
      · exfalso
        have c2 : ((b : Nat) : Int) < 0 := of_decide_eq_true c
        omega
      refine ⟨_, rfl, _, rfl, _, _, rfl, rfl, gi, _, rfl, _, rfl, _, _, rfl, rfl, gj, (by show 2 ≤ sizeLine; decide), fun t ht => ?_⟩
      exact q t ht
    · have hy : 0 < y := by
        rcases Nat.eq_zero_or_pos y with z | z
        · subst z
          exact (c rfl).elim
        · exact z
      refine ⟨_, rfl, _, rfl, .inl ⟨_, rfl, _, rfl, _, _, rfl, rfl, (by show (0 : Int) < ((y : Nat) : Int); omega), _, _, rfl, ?_⟩⟩
      have hlt := Nat.mod_lt x hy
      refine ⟨y, x % y, _, rfl, rfl, by rw [gcd_step hy, hg], by omega⟩
  · rintro σ H' ⟨x, y, o, rfl, rfl, hg, hl⟩
    exfalso
    omega
theorem scPower : FnScope ["_law_side", "_law_depth_here", "_law_power_here", "_law_turn"] ["_law_side", "_law_depth_here"] (defScope sPower) := ⟨rfl, rfl, rfl, by decide +kernel, rfl, by decide +kernel, by decide +kernel⟩
theorem ok_power {f : Addr} {fd : FuncData} (F : Fun K "_law_power" "_law_power" sPower f fd) (gRange : mg "range" = none) : FnOk P w K mg base CX0 1 f fd ["_law_side", "_law_depth_here"] spPower := by
  refine F.ok scPower (fun vs H Q E h => ?_) (fun cdv A outer s H vs Q E hr h => ?_)
  · obtain ⟨a, b, rfl, _⟩ := h
    rfl
  obtain ⟨a, b, rfl, ha, hb, q⟩ := h
  refine ⟨_, pss_cons (ps_set (i := 2) scPower.nd rfl (Or.inl rfl) pe_int)
    (pss_cons (ps_for PassesOwn.never rfl (pi_range1 rfl gRange (pa_cons (pv 1) pa_nil)) (pg_name (i := 3) scPower.nd rfl (Or.inl rfl))
      (pss_one (ps_set (i := 2) scPower.nd rfl (Or.inl rfl) (pe_op op_mul (pv 2) (pv 0)))))
    (pss_one (ps_ret (pv 2)))), ?_⟩
  refine ⟨_, rfl, _, rfl, by omega, by omega, for_range (lo := 0) (n := b) (fun i σ H' => ∃ (o : Option V), σ = [some (.int (a : Nat)), some (.int (b : Nat)), some (.int ((a ^ i : Nat) : Int)), o] ∧ H' = H)
    ⟨none, rfl, rfl⟩ ?_ ?_⟩
  · rintro i σ H' hi ⟨o, rfl, rfl⟩
    refine ⟨_, rfl, _, rfl, _, _, rfl, rfl, .inr ⟨by omega, by omega⟩, some (.int (0 + ((i : Nat) : Int))), ?_, rfl⟩
    rw [Nat.pow_succ, Int.natCast_mul]
    rfl
  · rintro σ H' ⟨o, rfl, rfl⟩
    exact ⟨_, rfl, q⟩
theorem scWeights : FnScope ["_law_deck_here", "_law_most", "_law_weights_here", "_law_k"] ["_law_deck_here", "_law_most"] (defScope sWeights) := ⟨rfl, rfl, rfl, by decide +kernel, rfl, by decide +kernel, by decide +kernel⟩
theorem sum_set_pos : ∀ {ws : List Nat} {k v : Nat}, k < ws.length → 0 < v → 0 < (ws.set k v).sum
  | [], k, v, h, _ => by simp at h
  | a :: r, 0, v, _, hv => by
    show 0 < (v :: r).sum
    rw [List.sum_cons]
    omega
  | a :: r, k + 1, v, h, hv => by
    show 0 < (a :: r.set k v).sum
    rw [List.sum_cons]
    have := sum_set_pos (ws := r) (k := k) (v := v) (by rw [List.length_cons] at h; omega) hv
    omega
theorem intsV_set (ws : List Nat) (k v : Nat) : (intsV ws).set k (.int ((v : Nat) : Int)) = intsV (ws.set k v) := by
  unfold intsV
  rw [List.map_set]
theorem ok_weights {f : Addr} {fd : FuncData} (F : Fun K "_law_weights" "_law_weights" sWeights f fd) (hD : Has P w K mg base "_law_draw" 1 ["_law_deck_here", "_law_most"] spDraw) (gRange : mg "range" = none) (gSum : mg "sum" = none) (gLen : mg "len" = none) :
    FnOk P w K mg base CX0 2 f fd ["_law_deck_here", "_law_most"] spWeights := by
  obtain ⟨fD, dD, mD, GD, bD, kD⟩ := hD
  refine F.ok scWeights (fun vs H Q E h => ?_) (fun cdv A outer s H vs Q E hr h => ?_)
  · obtain ⟨d, c, m, rfl, _⟩ := h
    rfl
  obtain ⟨d, c, m, rfl, hm0, hm, hdk, q⟩ := h
  refine ⟨_, pss_cons (ps_setLc (i := 2) (own := [("_law_k", 3)]) (g := gName 3) (tt := tYes) rfl scWeights.nd rfl rfl (sw_true rfl rfl rfl (by decide +kernel))
      (pi_range1 rfl gRange (pa_cons (pe_op op_add pe_int (pe_call GD hr rfl mD kD bD .nil pass0 (pa_cons (pv 0) (pa_cons (pv 1) pa_nil)))) pa_nil)) (blkOk_by (N := ["_law_deck_here", "_law_most", "_law_weights_here", "_law_k"]) (sc := defScope sWeights) (by decide +kernel))
      (fun _ _ _ _ _ => pg_name (i := 3) scWeights.nd rfl (Or.inl rfl)) (fun _ _ _ _ _ => pts_nil)
      (fun _ _ _ _ _ => pe_op op_mul (pe_call GD hr rfl mD kD bD .nil pass0 (pa_cons (pv 0) (pa_cons pe_int pa_nil))) (pe_call GD hr rfl mD kD bD .nil pass0 (pa_cons (pv 0) (pa_cons pe_int pa_nil)))))
    (pss_cons (ps_if (pt_cmpR op_eq (pe_callB (cr_sum rfl) (by rfl) gSum (by decide +kernel) (pa_cons (pv 2) pa_nil)) pe_int (nomark _))
      (pss_one (ps_asg (pe_op op_add pe_int (pe_call GD hr rfl mD kD bD .nil pass0 (pa_cons (pv 0) (pa_cons pe_int pa_nil))))
        (pg_sub (pv 2) (pe_call GD hr rfl mD kD bD .nil pass0 (pa_cons (pv 0) (pa_cons (pe_callB call_len_seq (by rfl) gLen PySem.boot_len (pa_cons (pv 2) pa_nil)) pa_nil))) set_list))) pss_nil)
    (pss_one (ps_ret (pv 2)))), ?_⟩
  refine ⟨_, rfl, _, rfl, d, c, m, rfl, hm0, by omega, hdk, fun v0 H1 hv0 k1 dk1 => ?_⟩
  refine ⟨_, _, rfl, rfl, ⟨_, rfl, by omega, by omega, fun D hD => ?_⟩⟩
  have en : ((1 : Int) + ((v0 : Nat) : Int)).toNat = 1 + v0 := by omega
  rw [en]
  have nDd : D ≠ d := fun z => (DeckAt.there dk1).1 (by rw [← z]; exact hD)
  have nDc : D ≠ c := fun z => (DeckAt.there dk1).2 (by rw [← z]; exact hD)
  have kD0 : Keep [d] H1 (upd H1 D (.lst [])) := Keep.new hD _
  have dkD0 : DeckAt (upd H1 D (.lst [])) d c := dk1.same (Same.new hD _)
  have hD0 : H D = none := by
    cases z : H D with
    | none => rfl
    | some u =>
      rw [k1.at_ D u (fun m => nDd (List.mem_singleton.mp m)) z] at hD
      cases hD
  refine lc_range (lo := 0) (n := 1 + v0) (fun i H' => Keep [d] H H' ∧ DeckAt H' d c ∧ ∃ ws : List Nat, H' D = some (.lst (intsV ws)) ∧ ws.length = i ∧ ∀ w ∈ ws, w ≤ 3) ⟨k1.trans kD0, dkD0, [], upd_same, rfl, fun _ h => by simp at h⟩ ?_ ?_
  · rintro i H' hi ⟨kp, dk, ws, hws, hwl, hw3⟩
    refine ⟨rfl, ?_⟩
    refine ⟨_, rfl, d, c, 4, rfl, by decide, by decide, dk, fun v1 H2 hv1 k2 dk2 => ?_⟩
    refine ⟨_, rfl, d, c, 2, rfl, by decide, by decide, dk2, fun v2 H3 hv2 k3 dk3 => ?_⟩
    refine ⟨_, _, rfl, rfl, .inl ⟨by omega, by omega⟩, ?_⟩
    have hws3 : H3 D = some (.lst (intsV ws)) := k3.at_ _ _ (fun m => nDd (List.mem_singleton.mp m)) (k2.at_ _ _ (fun m => nDd (List.mem_singleton.mp m)) hws)
    have k4 := Keep.put (S := [D]) (List.mem_singleton.mpr rfl) hws3 trivial (HO.lst (intsV ws ++ [.int (((v1 : Nat) : Int) * ((v2 : Nat) : Int))]))
    refine ⟨_, hws3, small1000 (by rw [intsV_len]; omega), ((kp.trans k2).trans k3).own k4 hD0, ?_, ws ++ [v1 * v2], ?_, by rw [List.length_append, hwl]; rfl, ?_⟩
    · exact dk3.keep k4 (fun m => nDd (List.mem_singleton.mp m).symm) (fun m => nDc (List.mem_singleton.mp m).symm)
    · rw [upd_same]
      unfold intsV
      rw [List.map_append]
      rfl
    · intro w hw
      rcases List.mem_append.mp hw with z | z
      · exact hw3 w z
      · rw [List.mem_singleton.mp z]
        have : v1 * v2 ≤ 3 * 1 := Nat.mul_le_mul (by omega) (by omega)
        omega
  rintro H' ⟨kp, dk, ws, hws, hwl, hw3⟩
  refine ⟨_, rfl, D, _, rfl, by rw [← intsV_ints]; exact SqL.of hws, rfl, _, rfl, ?_⟩
  rw [ints_sum]
  refine ite2 (fun _ => ?_) (fun cc => ?_)
  · refine ⟨_, rfl, d, c, 3, rfl, by decide, by decide, dk, fun v1 H2 hv1 k2 dk2 => ?_⟩
    have hws2 : H2 D = some (.lst (intsV ws)) := k2.at_ _ _ (fun m => nDd (List.mem_singleton.mp m)) hws
    refine ⟨_, _, rfl, rfl, _, rfl, _, rfl, _, rfl, D, _, rfl, .inl (SqL.of hws2), ?_⟩
    refine ⟨d, c, (intsV ws).length, rfl, by rw [intsV_len]; omega, by rw [intsV_len]; omega, dk2, fun v2 H3 hv2 k3 dk3 => ?_⟩
    rw [intsV_len] at hv2
    have hws3 : H3 D = some (.lst (intsV ws)) := k3.at_ _ _ (fun m => nDd (List.mem_singleton.mp m)) hws2
    have hix : ixN (intsV ws).length ((v2 : Nat) : Int) = some v2 := by
      rw [intsV_len]
      unfold ixN
      rw [if_pos (by omega), if_pos (by omega)]
      rfl
    refine ⟨D, _, _, v2, rfl, rfl, hws3, hix, ?_⟩
    have e1 : (V.int ((1 : Int) + ((v1 : Nat) : Int))) = V.int ((1 + v1 : Nat) : Int) := by
      rw [Int.natCast_add]
      rfl
    dsimp only
    rw [e1, intsV_set]
    have k4 := Keep.put (S := [D]) (List.mem_singleton.mpr rfl) hws3 trivial (HO.lst (intsV (ws.set v2 (1 + v1))))
    refine ⟨_, rfl, q D (ws.set v2 (1 + v1)) _ (((kp.trans k2).trans k3).own k4 hD0) (dk3.keep k4 (fun m => nDd (List.mem_singleton.mp m).symm) (fun m => nDc (List.mem_singleton.mp m).symm)) hD0 upd_same (sum_set_pos hv2 (by omega)) (by rw [List.length_set]; omega) fun w hw => ?_⟩
    rcases List.mem_or_eq_of_mem_set hw with z | z
    · exact hw3 w z
    · rw [z]; omega
  · refine ⟨_, rfl, q D ws _ kp dk hD0 hws ?_ (by omega) hw3⟩
    rcases Nat.eq_zero_or_pos ws.sum with z | z
    · exfalso
      refine cc ?_
      rw [z]
      rfl
    · exact z
end
end Fd
/-! The tree that is drawn. -/
namespace Fd
open PySem PySem.Spec PyProof.Rows L2
theorem TreeAt.keep {S : List Addr} {B H H' : Hp} {fm : Nat} {t : Tr Out} {v : V} (k : Keep S H H') (h : TreeAt B H fm t v) (hS : ∀ b ∈ S, B b ≠ none) : TreeAt B H' fm t v :=
  h.mono (fun a o b0 h1 => ⟨b0, k.at_ _ _ (fun m => hS a m b0) h1⟩) fun a xs h1 => k.tup _ _ h1
theorem TreeAt.base {B B' H : Hp} {fm : Nat} {t : Tr Out} {v : V} (h : TreeAt B H fm t v) (hb : ∀ a, B a = none → B' a = none) : TreeAt B' H fm t v :=
  h.mono (fun a o b0 h1 => ⟨hb a b0, h1⟩) fun a xs h1 => h1
theorem TreeAt.ref {B H : Hp} {fm : Nat} {t : Tr Out} {v : V} (h : TreeAt B H fm t v) : ∃ a, v = .ref a := by
  cases t with
  | leaf o => obtain ⟨_, _, a, u, e, _⟩ := h; exact ⟨a, e⟩
  | node ws kid => obtain ⟨a, _, _, _, e, _⟩ := h; exact ⟨a, e⟩
theorem none_back {S : List Addr} {H H' : Hp} {a : Addr} (k : Keep S H H') (hS : ∀ b ∈ S, H' b ≠ none) (h : H' a = none) : H a = none := by
  cases z : H a with
  | none => rfl
  | some u =>
    by_cases m : a ∈ S
    · exact (hS a m h).elim
    · rw [k.at_ a u m z] at h
      cases h
theorem pos_lt {ws : List Nat} {k : Nat} (h : pos ws k = true) : k < ws.length := by
  have h2 : 0 < ws.getD k 0 := of_decide_eq_true h
  rcases Nat.lt_or_ge k ws.length with z | z
  · exact z
  · rw [List.getD_eq_getElem?_getD, List.getElem?_eq_none z] at h2
    exact absurd h2 (by decide)
theorem letters4 {o : Nat} (h : o < 4) : ∃ c, atI ("abcd" : Str).cps.toList ((o : Nat) : Int) = some c ∧ (PyData.str ⟨#[c]⟩).canLay0 = true := by
  have h4 : o = 0 ∨ o = 1 ∨ o = 2 ∨ o = 3 := by omega
  rcases h4 with rfl | rfl | rfl | rfl
  · exact ⟨97, by decide +kernel, by decide +kernel⟩
  · exact ⟨98, by decide +kernel, by decide +kernel⟩
  · exact ⟨99, by decide +kernel, by decide +kernel⟩
  · exact ⟨100, by decide +kernel, by decide +kernel⟩
theorem letters2 {o : Nat} (h : o < 2) : ∃ c, atI ("xy" : Str).cps.toList ((o : Nat) : Int) = some c ∧ (PyData.str ⟨#[c]⟩).canLay0 = true := by
  have h4 : o = 0 ∨ o = 1 := by omega
  rcases h4 with rfl | rfl
  · exact ⟨120, by decide +kernel, by decide +kernel⟩
  · exact ⟨121, by decide +kernel, by decide +kernel⟩
/-- the children so far -/
def KidsAt (B H : Hp) (fm dp : Nat) (ws : List Nat) (cs : List V) (i : Nat) : Prop := cs.length = i ∧ ∃ kid : Nat → Tr Out, ∀ k, k < i →
  (pos ws k = true → ∃ u, cs[k]? = some u ∧ TreeAt B H fm (kid k) u ∧ (kid k).Ok ∧ (kid k).Dp (dp - 1)) ∧ (pos ws k = false → cs[k]? = some .non)
theorem kids_snoc {S : List Addr} {B H H' : Hp} {fm dp : Nat} {ws : List Nat} {cs : List V} {i : Nat} {u : V} (h : KidsAt B H fm dp ws cs i) (k : Keep S H H') (hS : ∀ b ∈ S, B b ≠ none)
    (hu : (pos ws i = true ∧ ∃ t, TreeAt B H' fm t u ∧ t.Ok ∧ t.Dp (dp - 1)) ∨ (pos ws i = false ∧ u = .non)) : KidsAt B H' fm dp ws (cs ++ [u]) (i + 1) := by
  obtain ⟨hl, kid, hk⟩ := h
  refine ⟨by rw [List.length_append, hl]; rfl, ?_⟩
  have old : ∀ j, j < i → (cs ++ [u])[j]? = cs[j]? := fun j hj => List.getElem?_append_left (by omega)
  have new : (cs ++ [u])[i]? = some u := by
    rw [List.getElem?_append_right (by omega), hl, Nat.sub_self]
    rfl
  have lift : ∀ kid' : Nat → Tr Out, (∀ j, j < i → kid' j = kid j) → ∀ j, j < i → (pos ws j = true → ∃ u', (cs ++ [u])[j]? = some u' ∧ TreeAt B H' fm (kid' j) u' ∧ (kid' j).Ok ∧ (kid' j).Dp (dp - 1)) ∧ (pos ws j = false → (cs ++ [u])[j]? = some .non) := fun kid' he j hj => by
    rw [old j hj, he j hj]
    refine ⟨fun hp => ?_, (hk j hj).2⟩
    obtain ⟨u', h1, h2, h3⟩ := (hk j hj).1 hp
    exact ⟨u', h1, h2.keep k hS, h3⟩
  rcases hu with ⟨hp, t, ht⟩ | ⟨hp, rfl⟩
  · refine ⟨fun j => if j = i then t else kid j, fun j hj => ?_⟩
    by_cases e : j = i
    · subst e
      refine ⟨fun _ => ⟨u, new, ?_⟩, fun z => ?_⟩
      · have e : (fun j' => if j' = j then t else kid j') j = t := if_pos rfl
        rw [e]
        exact ht
      · rw [hp] at z
        cases z
    · exact lift _ (fun j' hj' => if_neg (by omega)) j (by omega)
  · refine ⟨kid, fun j hj => ?_⟩
    by_cases e : j = i
    · subst e
      refine ⟨fun z => ?_, fun _ => new⟩
      rw [hp] at z
      cases z
    · exact lift kid (fun _ _ => rfl) j (by omega)
/-- _law_tree(deck, depth, form), depth below n -/
def spTree (n : Nat) : Sp := fun vs H Q _ => ∃ (d c : Addr) (dp fm : Nat), vs = [.ref d, .int (dp : Nat), .int (fm : Nat)] ∧ dp < n ∧ fm ≤ 2 ∧ DeckAt H d c ∧
  ∀ (v : V) (t : Tr Out) (H' : Hp), Keep [d] H H' → DeckAt H' d c → TreeAt H H' fm t v → t.Ok → t.Dp dp → Q v H'
section
variable {P : Program} {w : World} {K : PySem.W.Frag} {mg : Str → Option Value} {base : Heap}
/-- nothing is asked of a def that is never called -/
theorem fn_never {f : Addr} {fd : FuncData} {ps : List Str} {k : Nat} {sp : Sp} (no : ∀ vs H Q E, ¬ sp vs H Q E) : FnOk P w K mg base CX0 k f fd ps sp :=
  ⟨fun vs H Q E h => absurd h (no vs H Q E), fun A outer s H args us vs Q E _ _ _ _ h => absurd h (no vs H Q E)⟩
theorem scTree : FnScope ["_law_deck_here", "_law_depth_here", "_law_form", "_law_outcome", "_law_weights_here", "_law_children", "_law_weight", "_law_child"] ["_law_deck_here", "_law_depth_here", "_law_form"] (defScope sTree) := ⟨rfl, rfl, rfl, by decide +kernel, rfl, by decide +kernel, by decide +kernel⟩
theorem str_len4 : ("abcd" : Str).length ≤ sizeLine := by decide +kernel
theorem str_len2 : ("xy" : Str).length ≤ sizeLine := by decide +kernel
theorem ok_tree {f : Addr} {fd : FuncData} {n : Nat} (F : Fun K "_law_tree" "_law_tree" sTree f fd) (hD : Has P w K mg base "_law_draw" 1 ["_law_deck_here", "_law_most"] spDraw) (hW : Has P w K mg base "_law_weights" 2 ["_law_deck_here", "_law_most"] spWeights)
    (G : FnOk P w K mg base CX0 (2 + n) f fd ["_law_deck_here", "_law_depth_here", "_law_form"] (spTree n)) (b : Binds K fd ["_law_deck_here", "_law_depth_here", "_law_form"] []) (m : mg "_law_tree" = some (.ref f)) :
    FnOk P w K mg base CX0 (2 + n + 1) f fd ["_law_deck_here", "_law_depth_here", "_law_form"] (spTree (n + 1)) := by
  obtain ⟨fD, dD, mD, GD, bD, kD⟩ := hD
  obtain ⟨fW, dW, mW, GW, bW, kW⟩ := hW
  refine F.ok scTree (fun vs H Q E h => ?_) (fun cdv A outer s H vs Q E hr h => ?_)
  · obtain ⟨d, c, dp, fm, rfl, _⟩ := h
    rfl
  obtain ⟨d, c, dp, fm, rfl, hdp, hfm, hdk, q⟩ := h
  have hr1 : Room 1 _ := hr.mono (by omega)
  have hr2 : Room 2 _ := hr.mono (by omega)
  refine ⟨_, pss_cons (ps_if (PW.pt (pw_or (pt_cmpR op_eq (pv 1) pe_int (nomark _)) (pw_or1 (pt_cmpR op_eq (pe_call GD hr1 rfl mD kD bD .nil pass0 (pa_cons (pv 0) (pa_cons pe_int pa_nil))) pe_int (nomark _)))))
      (pss_cons (ps_set (i := 3) scTree.nd rfl (Or.inl rfl) (pe_call GD hr1 rfl mD kD bD .nil pass0 (pa_cons (pv 0) (pa_cons pe_int pa_nil))))
      (pss_cons (ps_if (pt_cmpR op_eq (pv 2) pe_int (nomark _)) (pss_one (ps_set (i := 3) scTree.nd rfl (Or.inl rfl) (pe_ix ix_str pe_str (pv 3) (fun _ _ => rfl)))) pss_nil)
      (pss_cons (ps_if (pt_cmpR op_eq (pv 2) pe_int (nomark _)) (pss_one (ps_set (i := 3) scTree.nd rfl (Or.inl rfl) (pe_tup (pa_cons (pv 3) (pa_cons (pe_ix ix_str pe_str (pe_call GD hr1 rfl mD kD bD .nil pass0 (pa_cons (pv 0) (pa_cons pe_int pa_nil))) (fun _ _ => rfl)) pa_nil))))) pss_nil)
      (pss_one (ps_ret (pe_lst (pa_cons pe_str (pa_cons (pv 3) pa_nil)))))))) pss_nil)
    (pss_cons (ps_set (i := 4) scTree.nd rfl (Or.inl rfl) (pe_call GW hr2 rfl mW kW bW .nil pass0 (pa_cons (pv 0) (pa_cons pe_int pa_nil))))
    (pss_cons (ps_set (i := 5) scTree.nd rfl (Or.inl rfl) (pe_lst pa_nil))
    (pss_cons (ps_for PassesOwn.never rfl (pi_list (pv 4)) (pg_name (i := 6) scTree.nd rfl (Or.inl rfl))
      (pss_cons (ps_set (i := 7) scTree.nd rfl (Or.inl rfl) pe_non)
      (pss_cons (ps_if (pt_cmpR op_gt (pv 6) pe_int (nomark _)) (pss_one (ps_set (i := 7) scTree.nd rfl (Or.inl rfl) (pe_call G hr rfl m F.kp b .nil pass0 (pa_cons (pv 0) (pa_cons (pe_op op_sub (pv 1) pe_int) (pa_cons (pv 2) pa_nil)))))) pss_nil)
      (pss_one (ps_expr (pe_bm PySem.F.plainAttrs_list PySem.F.slot_list_append PySem.F.type_list_append mt_append (pv 5) (pa_cons (pv 7) pa_nil)))))))
    (pss_one (ps_ret (pe_lst (pa_cons pe_str (pa_cons (pv 4) (pa_cons (pv 5) pa_nil))))))))), ?_⟩
  -- a leaf
  have leaf : ∀ H1 : Hp, Keep [d] H H1 → DeckAt H1 d c → (tSeq (tAsg (tCall spDraw [] E0 (tCons (tVar 0) (tCons (tC (.int 4)) tNil))) (gName 3))
      (tSeq (tIfS (tTest (tOp rEq (tVar 2) (tC (.int 1)))) (tAsg (tOp rIxS (tC (.str "abcd")) (tVar 3)) (gName 3)) tNext)
      (tSeq (tIfS (tTest (tOp rEq (tVar 2) (tC (.int 2)))) (tAsg (tTup (tCons (tVar 3) (tCons (tOp rIxS (tC (.str "xy")) (tCall spDraw [] E0 (tCons (tVar 0) (tCons (tC (.int 2)) tNil)))) tNil))) (gName 3)) tNext)
      (tRet (tLst (tCons (tC (.str "end")) (tCons (tVar 3) tNil)))))))
      { nx := fun _ H' => Q .non H', rt := Q } [some (.ref d), some (.int ((dp : Nat) : Int)), some (.int ((fm : Nat) : Int)), none, none, none, none, none] H1 := fun H1 k1 dk1 => by
    have fin : ∀ (o : Out) (v : V) (H2 : Hp), Keep [d] H H2 → DeckAt H2 d c → o.form = fm → o.good → OutV H2 o v → ∀ al, H2 al = none → Q (.ref al) (upd H2 al (.lst [.str "end", v])) := fun o v H2 k2 dk2 fo go ho al hal => by
      have k3 : Keep [] H2 (upd H2 al (.lst [.str "end", v])) := Keep.new hal _
      have hal0 : H al = none := none_back k2 (fun b hb => by rw [List.mem_singleton.mp hb]; exact dk2.there.1) hal
      exact q (.ref al) (.leaf o) _ (k2.trans (k3.mono fun b hb => by simp at hb)) (dk2.same k3.same) ⟨fo, go, al, v, rfl, hal0, upd_same, ho.keep k3⟩ trivial trivial
    refine ⟨_, rfl, d, c, 4, rfl, by decide, by decide, dk1, fun v1 H2 hv1 k2 dk2 => ?_⟩
    have k12 := k1.trans k2
    have f3 : fm = 0 ∨ fm = 1 ∨ fm = 2 := by omega
    rcases f3 with rfl | rfl | rfl
    · refine ⟨_, rfl, rfl, _, rfl, iteF ?_⟩
      refine ⟨_, rfl, rfl, _, rfl, iteF ?_⟩
      exact ⟨_, rfl, (by show 2 ≤ sizeLine; decide), fun al hal => fin (.i (v1 : Nat)) _ _ k12 dk2 rfl trivial rfl al hal⟩
    · obtain ⟨ch, hch, hok⟩ := letters4 hv1
      refine ⟨_, rfl, rfl, _, rfl, iteT ?_⟩
      refine ⟨_, rfl, _, _, ch, rfl, rfl, str_len4, hch, ?_⟩
      refine ⟨_, rfl, rfl, _, rfl, iteF ?_⟩
      exact ⟨_, rfl, (by show 2 ≤ sizeLine; decide), fun al hal => fin (.s ⟨#[ch]⟩) _ _ k12 dk2 rfl hok rfl al hal⟩
    · refine ⟨_, rfl, rfl, _, rfl, iteF ?_⟩
      refine ⟨_, rfl, rfl, _, rfl, iteT ?_⟩
      refine ⟨_, rfl, _, rfl, d, c, 2, rfl, by decide, by decide, dk2, fun v2 H3 hv2 k3 dk3 => ?_⟩
      obtain ⟨ch, hch, hok⟩ := letters2 hv2
      refine ⟨_, _, ch, rfl, rfl, str_len2, hch, (by show 2 ≤ sizeLine; decide), fun tp htp => ?_⟩
      have k4 : Keep [] H3 (upd H3 tp (.tup [.int ((v1 : Nat) : Int), .str ⟨#[ch]⟩])) := Keep.new htp _
      exact ⟨_, rfl, (by show 2 ≤ sizeLine; decide), fun al hal => fin (.t (v1 : Nat) ⟨#[ch]⟩) _ _ ((k12.trans k3).trans (k4.mono fun b hb => by simp at hb)) (dk3.same k4.same) rfl hok ⟨tp, rfl, upd_same⟩ al hal⟩
  refine ⟨_, rfl, rfl, _, rfl, ?_⟩
  refine ite2 (fun _ => ?_) (fun cdp => ?_)
  · exact iteT (leaf H (Keep.refl _ H) hdk)
  refine ⟨_, rfl, d, c, 5, rfl, by decide, by decide, hdk, fun v0 H1 hv0 k1 dk1 => ⟨rfl, _, rfl, ?_⟩⟩
  refine ite2 (fun _ => ?_) (fun _ => ?_)
  · exact leaf H1 k1 dk1
  have dp0 : 0 < dp := by
    rcases Nat.eq_zero_or_pos dp with z | z
    · subst z
      exact (cdp rfl).elim
    · exact z
  -- a pick
  refine ⟨_, rfl, d, c, 3, rfl, by decide, by decide, dk1, fun wl ws H2 k2 dk2 hwl1 hwl hs0 hl3 hw3 => ?_⟩
  refine ⟨Nat.zero_le _, fun ch hch => ?_⟩
  have k12 := k1.trans k2
  have hwl0 : H wl = none := none_back k1 (fun b hb => by rw [List.mem_singleton.mp hb]; exact dk1.there.1) hwl1
  have hch0 : H ch = none := none_back k12 (fun b hb => by rw [List.mem_singleton.mp hb]; exact dk2.there.1) hch
  have nwc : wl ≠ ch := ne_of_none hwl hch
  have ndc : ch ≠ d := fun z => dk2.there.1 (by rw [← z]; exact hch)
  have ncc : ch ≠ c := fun z => dk2.there.2 (by rw [← z]; exact hch)
  have nwd : wl ≠ d := fun z => dk1.there.1 (by rw [← z]; exact hwl1)
  have k3 : Keep [] H2 (upd H2 ch (.lst [])) := Keep.new hch _
  have dk3 := dk2.same k3.same
  have hwl3 := k3.same _ _ hwl
  have hch3 : (upd H2 ch (.lst [])) ch = some (.lst []) := upd_same
  have k13 : Keep [d] H (upd H2 ch (.lst [])) := k12.trans (k3.mono fun b hb => by simp at hb)
  clear k3
  revert dk3 hwl3 hch3 k13
  generalize upd H2 ch (.lst []) = H3
  intro dk3 hwl3 hch3 k13
  have baseOf : ∀ a, H3 a = none → H a = none := fun a ha => none_back k13 (fun b hb => by rw [List.mem_singleton.mp hb]; exact dk3.there.1) ha
  refine ⟨_, rfl, wl, rfl, ⟨_, SqL.of hwl3⟩, for_list (K := K) (a := wl) (xs := intsV ws) (fun i σ H' => ∃ (a b o3 : Option V) (cs : List V), σ = [some (.ref d), some (.int ((dp : Nat) : Int)), some (.int ((fm : Nat) : Int)), o3, some (.ref wl), some (.ref ch), a, b] ∧
      Keep [d, ch] H3 H' ∧ DeckAt H' d c ∧ H' ch = some (.lst cs) ∧ KidsAt H3 H' fm dp ws cs i)
    ⟨none, none, none, [], rfl, Keep.refl _ H3, dk3, hch3, rfl, fun _ => .leaf (.i 0), fun k hk => by omega⟩ (fun i σ H' _ ⟨_, _, _, _, _, kp, _⟩ => SqL.of (kp.at_ _ _ (fun m => by
      rcases List.mem_cons.mp m with z | z
      · exact nwd z
      · exact nwc (List.mem_singleton.mp z)) hwl3)) ?_ ?_⟩
  · rintro i x σ H' hi ⟨a, b', o3, cs, rfl, kp, dk, hcs, hk⟩
    have il := lt_of_get hi
    rw [intsV_len] at il
    rw [intsV_get il] at hi
    obtain rfl := Option.some.inj hi
    have hS : ∀ b ∈ [d, ch], H3 b ≠ none := fun b hb => by
      rcases List.mem_cons.mp hb with z | z
      · rw [z]; exact dk3.there.1
      · rw [List.mem_singleton.mp z, hch3]
        exact fun z => by cases z
    have hcl := hk.1
    refine ⟨_, rfl, _, _, rfl, rfl, _, rfl, ?_⟩
    refine ite2 (fun cpos => ?_) (fun cpos => ?_)
    · have c2 : (0 : Int) < ((ws.getD i 0 : Nat) : Int) := of_decide_eq_true cpos
      have hp : pos ws i = true := decide_eq_true (by omega)
      refine ⟨_, rfl, _, rfl, _, _, rfl, rfl, _, rfl, d, c, dp - 1, fm, ?_, by omega, hfm, dk, fun u t H4 k4 dk4 ht hok htd => ?_⟩
      · have e : ((dp : Nat) : Int) - 1 = ((dp - 1 : Nat) : Int) := by omega
        rw [← e]
        rfl
      have hcs4 : H4 ch = some (.lst cs) := k4.at_ _ _ (fun m => ndc (List.mem_singleton.mp m)) hcs
      have k4' : Keep [d, ch] H' H4 := k4.mono fun b hb => by rw [List.mem_singleton.mp hb]; simp
      have k5 := Keep.put (S := [d, ch]) (by simp) hcs4 trivial (HO.lst (cs ++ [u]))
      have hb3 : ∀ a, H' a = none → H3 a = none := fun a ha => none_back kp (fun b hb => by
        rcases List.mem_cons.mp hb with z | z
        · rw [z]; exact dk.there.1
        · rw [List.mem_singleton.mp z, hcs]
          exact fun z => by cases z) ha
      refine ⟨_, rfl, .inl ⟨rfl, _, SqL.of hcs4⟩, _, rfl, ch, _, _, rfl, rfl, hcs4, small1000 (by omega), ?_⟩
      refine ⟨_, _, _, cs ++ [u], rfl, kp.trans (k4'.trans k5), dk4.keep (Keep.put (S := [ch]) (List.mem_singleton.mpr rfl) hcs4 trivial _) (fun m => ndc (List.mem_singleton.mp m).symm) (fun m => ncc (List.mem_singleton.mp m).symm), upd_same, ?_⟩
      exact kids_snoc hk (k4'.trans k5) hS (.inl ⟨hp, t, (ht.base hb3).keep k5 hS, hok, htd⟩)
    · have c2 : ¬ (0 : Int) < ((ws.getD i 0 : Nat) : Int) := fun z => cpos (decide_eq_true z)
      have hp : pos ws i = false := decide_eq_false (by omega)
      have k5 := Keep.put (S := [d, ch]) (by simp) hcs trivial (HO.lst (cs ++ [V.non]))
      refine ⟨_, rfl, .inl ⟨rfl, _, SqL.of hcs⟩, _, rfl, ch, _, _, rfl, rfl, hcs, small1000 (by omega), ?_⟩
      refine ⟨_, _, _, cs ++ [V.non], rfl, kp.trans k5, dk.keep (Keep.put (S := [ch]) (List.mem_singleton.mpr rfl) hcs trivial _) (fun m => ndc (List.mem_singleton.mp m).symm) (fun m => ncc (List.mem_singleton.mp m).symm), upd_same, ?_⟩
      exact kids_snoc hk k5 hS (.inr ⟨hp, rfl⟩)
  · rintro σ H' ⟨a, b', o3, cs, rfl, kp, dk, hcs, hk⟩
    rw [intsV_len] at hk
    obtain ⟨hcl, kid, hk⟩ := hk
    have hwl' : H' wl = some (.lst (intsV ws)) := kp.at_ _ _ (fun m => by
      rcases List.mem_cons.mp m with z | z
      · exact nwd z
      · exact nwc (List.mem_singleton.mp z)) hwl3
    refine ⟨_, rfl, _, rfl, (by show 3 ≤ sizeLine; decide), fun al hal => ?_⟩
    have k6 : Keep [] H' (upd H' al (.lst [.str "pick", .ref wl, .ref ch])) := Keep.new hal _
    have hal3 : H3 al = none := none_back kp (fun b hb => by
      rcases List.mem_cons.mp hb with z | z
      · rw [z]; exact dk.there.1
      · rw [List.mem_singleton.mp z, hcs]
        exact fun z => by cases z) hal
    have kfin : Keep [d] H (upd H' al (.lst [.str "pick", .ref wl, .ref ch])) := (k13.mono fun b hb => by rw [List.mem_singleton.mp hb]; simp).trans (kp.trans (k6.mono fun b hb => by simp at hb)) |>.less fun b hb => by
      rcases List.mem_cons.mp hb with z | z
      · exact .inl (List.mem_singleton.mpr z)
      · exact .inr (by rw [List.mem_singleton.mp z]; exact hch0)
    refine q (.ref al) (.node ws kid) _ kfin (dk.same k6.same) ⟨al, wl, ch, cs, rfl, baseOf al hal3, hwl0, hch0, upd_same, k6.same _ _ hwl', k6.same _ _ hcs, hcl, fun k hkl => ⟨fun hp => ?_, (hk k hkl).2⟩⟩ ⟨hs0, hl3, hw3, fun k hp => ?_⟩ ?_
    · obtain ⟨u, h1, h2, _⟩ := (hk k hkl).1 hp
      exact ⟨u, h1, (h2.keep k6 (by simp)).base baseOf⟩
    · obtain ⟨u, h1, h2, h3, h4⟩ := (hk k (pos_lt hp)).1 hp
      exact h3
    · obtain ⟨dd, edd⟩ : ∃ dd, dp = dd + 1 := ⟨dp - 1, by omega⟩
      rw [edd]
      intro k hp
      obtain ⟨u, h1, h2, h3, h4⟩ := (hk k (pos_lt hp)).1 hp
      have e : dp - 1 = dd := by omega
      rw [← e]
      exact h4
theorem ok_trees {f : Addr} {fd : FuncData} (F : Fun K "_law_tree" "_law_tree" sTree f fd) (hD : Has P w K mg base "_law_draw" 1 ["_law_deck_here", "_law_most"] spDraw) (hW : Has P w K mg base "_law_weights" 2 ["_law_deck_here", "_law_most"] spWeights)
    (b : Binds K fd ["_law_deck_here", "_law_depth_here", "_law_form"] []) (m : mg "_law_tree" = some (.ref f)) : ∀ n : Nat, FnOk P w K mg base CX0 (2 + n) f fd ["_law_deck_here", "_law_depth_here", "_law_form"] (spTree n)
  | 0 => fn_never fun vs H Q E h => by
    obtain ⟨d, c, dp, fm, _, h1, _⟩ := h
    omega
  | n + 1 => ok_tree F hD hW (ok_trees F hD hW b m n) b m
end
end Fd
/-! depth, common multiple. -/
namespace Fd
open PySem PySem.Spec PyProof.Rows L2
theorem dvd2520 {s : Nat} (h0 : 0 < s) (h : s ≤ 9) : s ∣ 2520 := by
  have h9 : s = 1 ∨ s = 2 ∨ s = 3 ∨ s = 4 ∨ s = 5 ∨ s = 6 ∨ s = 7 ∨ s = 8 ∨ s = 9 := by omega
  rcases h9 with rfl | rfl | rfl | rfl | rfl | rfl | rfl | rfl | rfl <;> decide
/-- _law_depth(tree), the tree less than n deep -/
def spDepth (n : Nat) : Sp := fun vs H Q _ => ∃ (B : Hp) (fm m : Nat) (v : V) (t : Tr Out), vs = [v] ∧ TreeAt B H fm t v ∧ t.Ok ∧ t.Dp m ∧ m < n ∧ n ≤ 50 ∧ ∀ (d : Nat) (H' : Hp), Same H H' → t.Dp d → d ≤ m → Q (.int (d : Nat)) H'
def spCommon (n : Nat) : Sp := fun vs H Q _ => ∃ (B : Hp) (fm m : Nat) (v : V) (t : Tr Out), vs = [v] ∧ TreeAt B H fm t v ∧ t.Ok ∧ t.Dp m ∧ m < n ∧ ∀ N : Nat, 0 < N → N ∣ 2520 → t.Dv N → Q (.int (N : Nat)) H
section
variable {P : Program} {w : World} {K : PySem.W.Frag} {mg : Str → Option Value} {base : Heap}
theorem scDepth : FnScope ["_law_tree_here", "_law_child"] ["_law_tree_here"] (defScope sDepth) := ⟨rfl, rfl, rfl, by decide +kernel, rfl, by decide +kernel, by decide +kernel⟩
theorem ok_depth {f : Addr} {fd : FuncData} {n : Nat} (F : Fun K "_law_depth" "_law_depth" sDepth f fd) (G : FnOk P w K mg base CX0 n f fd ["_law_tree_here"] (spDepth n)) (b : Binds K fd ["_law_tree_here"] []) (m : mg "_law_depth" = some (.ref f)) (gMax : mg "max" = none) :
    FnOk P w K mg base CX0 (n + 1) f fd ["_law_tree_here"] (spDepth (n + 1)) := by
  refine F.ok scDepth (fun vs H Q E h => ?_) (fun cdv A outer s H vs Q E hr h => ?_)
  · obtain ⟨B, fm, m', v, t, rfl, _⟩ := h
    rfl
  obtain ⟨B, fm, m', v, t, rfl, ht, ok, dp, hmn, hn50, q⟩ := h
  refine ⟨_, pss_cons (ps_if (pt_cmpR op_eq (pe_ix ix_list (pv 0) pe_int (fun _ _ => rfl)) pe_str (nomark _)) (pss_one (ps_ret pe_int)) pss_nil)
    (pss_one (ps_ret (pe_op op_add pe_int (pe_callB (cr_max rfl) (by rfl) gMax (by decide +kernel) (pa_cons
      (pe_lc (own := [("_law_child", 1)]) (g := gName 1) (tt := tB (tNotN (tVar 1))) rfl scDepth.nd (pi_list (pe_ix ix_list (pv 0) pe_int (fun _ _ => rfl))) (blkOk_by (N := ["_law_tree_here", "_law_child"]) (sc := defScope sDepth) (by decide +kernel))
        (fun _ _ _ _ _ => pg_name (i := 1) scDepth.nd rfl (Or.inl rfl)) (fun _ _ _ _ _ => pts_one (pt_cmp (pc_notN (pv 1)))) (fun _ _ _ _ _ => pe_call G hr rfl m F.kp b .nil pass0 (pa_cons (pv 1) pa_nil))) pa_nil))))), ?_⟩
  cases t with
  | leaf o =>
    obtain ⟨fo, go, al, u, rfl, b0, hal, hou⟩ := ht
    refine ⟨_, rfl, al, _, _, _, rfl, rfl, SqL.of hal, atI_0, rfl, _, rfl, ?_⟩
    rw [str_end]
    exact iteT (q 0 H (Same.refl H) trivial (Nat.zero_le _))
  | node ws kid =>
    obtain ⟨al, wl, c, cs, rfl, b1, b2, b3, h1, h2, h3, hcl, hk⟩ := ht
    obtain ⟨o1, o2, o3, o4⟩ := ok
    obtain ⟨m1, rfl⟩ : ∃ m1, m' = m1 + 1 := by
      cases m' with
      | zero => exact dp.elim
      | succ m1 => exact ⟨m1, rfl⟩
    refine ⟨_, rfl, al, _, _, _, rfl, rfl, SqL.of h1, atI_0, rfl, _, rfl, ?_⟩
    rw [str_pick]
    refine iteF ?_
    refine ⟨_, rfl, al, _, _, _, rfl, rfl, SqL.of h1, atI_2, c, rfl, ⟨_, SqL.of h3⟩, fun D hD => ?_⟩
    refine lc_list (K := K) (a := c) (xs := cs) (fun i H' => Same H H' ∧ ∃ ds : List Nat, H' D = some (.lst (intsV ds)) ∧ ds.length ≤ i ∧ (∀ x ∈ ds, x ≤ m1) ∧ ∀ k, k < i → pos ws k = true → ∃ x ∈ ds, (kid k).Dp x)
      ⟨Same.new hD _, [], upd_same, Nat.le_refl _, fun _ h => by simp at h, fun k hk => by omega⟩ (fun i H' _ ⟨sm, _⟩ => SqL.of (sm _ _ h3)) ?_ ?_
    · rintro i x H' hi ⟨sm, ds, hds, hdl, hdm, hdk⟩
      have il := lt_of_get hi
      rw [hcl] at il
      have i3 : ds.length < sizeLine := small1000 (by omega)
      cases ep : pos ws i with
      | false =>
        have e := (hk i il).2 ep
        rw [hi] at e
        obtain rfl := Option.some.inj e
        refine ⟨rfl, _, rfl, _, rfl, iteF ⟨sm, ds, hds, by omega, hdm, fun k hk1 hp => ?_⟩⟩
        rcases Nat.lt_or_ge k i with z | z
        · exact hdk k z hp
        · have e : k = i := by omega
          rw [e, ep] at hp
          cases hp
      | true =>
        obtain ⟨u, e, hut⟩ := (hk i il).1 ep
        rw [hi] at e
        obtain rfl := Option.some.inj e
        obtain ⟨au, rfl⟩ := hut.ref
        refine ⟨rfl, _, rfl, _, rfl, iteT ?_⟩
        refine ⟨_, rfl, B, fm, m1, _, kid i, rfl, hut.same sm, o4 i ep, dp i ep, by omega, by omega, fun d H2 s2 hd hdm1 => ?_⟩
        have hds2 := s2 _ _ hds
        refine ⟨_, hds2, by rw [intsV_len]; exact i3, Same.put (sm.trans s2) hD _, ds ++ [d], ?_, by rw [List.length_append, List.length_singleton]; omega, fun y hy => ?_, fun k hk1 hp => ?_⟩
        · rw [upd_same]
          unfold intsV
          rw [List.map_append]
          rfl
        · rcases List.mem_append.mp hy with z | z
          · exact hdm y z
          · rw [List.mem_singleton.mp z]; exact hdm1
        · rcases Nat.lt_or_ge k i with z | z
          · obtain ⟨y, hy, hyd⟩ := hdk k z hp
            exact ⟨y, List.mem_append_left _ hy, hyd⟩
          · have e : k = i := by omega
            rw [e]
            exact ⟨d, List.mem_append_right _ (List.mem_singleton.mpr rfl), hd⟩
    · rintro H' ⟨sm, ds, hds, hdl, hdm, hdk⟩
      rw [hcl] at hdk
      obtain ⟨f1, f2, f3⟩ := first_pos o1
      obtain ⟨y0, hy0, _⟩ := hdk (first ws) f2 f3
      refine ⟨D, _, rfl, by rw [← intsV_ints]; exact SqL.of hds, ?_, fun mx hmx hle => ?_⟩
      · rw [List.length_map]
        exact List.length_pos_of_mem hy0
      obtain ⟨x, hx, rfl⟩ := List.mem_map.mp hmx
      refine ⟨_, _, rfl, rfl, ?_⟩
      have e1 : (V.int ((1 : Int) + ((x : Nat) : Int))) = V.int ((x + 1 : Nat) : Int) := by
        rw [Int.natCast_add, Int.add_comm]
        rfl
      show Q (V.int ((1 : Int) + ((x : Nat) : Int))) H'
      rw [e1]
      refine q (x + 1) H' sm (fun k hp => ?_) (by have := hdm x hx; omega)
      obtain ⟨y, hy, hyd⟩ := hdk k (pos_lt hp) hp
      have hyx := hle _ (List.mem_map.mpr ⟨y, hy, rfl⟩)
      exact hyd.mono (by omega)
theorem ok_depths {f : Addr} {fd : FuncData} (F : Fun K "_law_depth" "_law_depth" sDepth f fd) (b : Binds K fd ["_law_tree_here"] []) (m : mg "_law_depth" = some (.ref f)) (gMax : mg "max" = none) : ∀ n : Nat, FnOk P w K mg base CX0 n f fd ["_law_tree_here"] (spDepth n)
  | 0 => fn_never fun vs H Q E h => by
    obtain ⟨B, fm, m', v, t, _, _, _, _, h1, _⟩ := h
    omega
  | n + 1 => ok_depth F (ok_depths F b m gMax n) b m gMax
theorem scCommon : FnScope ["_law_tree_here", "_law_common_here", "_law_child", "_law_other"] ["_law_tree_here"] (defScope sCommon) := ⟨rfl, rfl, rfl, by decide +kernel, rfl, by decide +kernel, by decide +kernel⟩
theorem max_gcd {g : Nat} (h : 0 < g) : (if ((g : Nat) : Int) > 1 then ((g : Nat) : Int) else 1) = ((g : Nat) : Int) := by
  by_cases z : ((g : Nat) : Int) > 1
  · rw [if_pos z]
  · rw [if_neg z]
    omega
theorem ok_common {f : Addr} {fd : FuncData} {n : Nat} (F : Fun K "_law_common" "_law_common" sCommon f fd) (hS : Has P w K mg base "_law_shared" 1 ["_law_first", "_law_second"] spShared) (G : FnOk P w K mg base CX0 (1 + n) f fd ["_law_tree_here"] (spCommon n)) (b : Binds K fd ["_law_tree_here"] [])
    (m : mg "_law_common" = some (.ref f)) (gMax : mg "max" = none) (gAbs : mg "abs" = none) (gSum : mg "sum" = none) : FnOk P w K mg base CX0 (1 + n + 1) f fd ["_law_tree_here"] (spCommon (n + 1)) := by
  obtain ⟨fS, dS, mS, GS, bS, kS⟩ := hS
  refine F.ok scCommon (fun vs H Q E h => ?_) (fun cdv A outer s H vs Q E hr h => ?_)
  · obtain ⟨B, fm, m', v, t, rfl, _⟩ := h
    rfl
  obtain ⟨B, fm, m', v, t, rfl, ht, ok, dp, hmn, q⟩ := h
  have hr1 : Room 1 _ := hr.mono (by omega)
  refine ⟨_, pss_cons (ps_if (pt_cmpR op_eq (pe_ix ix_list (pv 0) pe_int (fun _ _ => rfl)) pe_str (nomark _)) (pss_one (ps_ret pe_int)) pss_nil)
    (pss_cons (ps_set (i := 1) scCommon.nd rfl (Or.inl rfl) (pe_callB (cr_sum rfl) (by rfl) gSum (by decide +kernel) (pa_cons (pe_ix ix_list (pv 0) pe_int (fun _ _ => rfl)) pa_nil)))
    (pss_cons (ps_for PassesOwn.never rfl (pi_list (pe_ix ix_list (pv 0) pe_int (fun _ _ => rfl))) (pg_name (i := 2) scCommon.nd rfl (Or.inl rfl))
      (pss_one (ps_if (pt_cmp (pc_notN (pv 2)))
        (pss_cons (ps_set (i := 3) scCommon.nd rfl (Or.inl rfl) (pe_call G hr rfl m F.kp b .nil pass0 (pa_cons (pv 2) pa_nil)))
        (pss_one (ps_set (i := 1) scCommon.nd rfl (Or.inl rfl) (pe_op op_fdiv (pe_op op_mul (pv 1) (pv 3)) (pe_callB (call_max2 rfl) (by rfl) gMax (by decide +kernel) (pa_cons pe_int (pa_cons (pe_callB call_abs (by rfl) gAbs (by decide +kernel) (pa_cons (pe_call GS hr1 rfl mS kS bS .nil pass0 (pa_cons (pv 1) (pa_cons (pv 3) pa_nil))) pa_nil)) pa_nil))))))) pss_nil)))
    (pss_one (ps_ret (pv 1))))), ?_⟩
  cases t with
  | leaf o =>
    obtain ⟨fo, go, al, u, rfl, b0, hal, hou⟩ := ht
    refine ⟨_, rfl, al, _, _, _, rfl, rfl, SqL.of hal, atI_0, rfl, _, rfl, ?_⟩
    rw [str_end]
    exact iteT (q 1 (by decide) (Nat.one_dvd _) trivial)
  | node ws kid =>
    obtain ⟨al, wl, c, cs, rfl, b1, b2, b3, h1, h2, h3, hcl, hk⟩ := ht
    obtain ⟨o1, o2, o3, o4⟩ := ok
    obtain ⟨m1, rfl⟩ : ∃ m1, m' = m1 + 1 := by
      cases m' with
      | zero => exact dp.elim
      | succ m1 => exact ⟨m1, rfl⟩
    refine ⟨_, rfl, al, _, _, _, rfl, rfl, SqL.of h1, atI_0, rfl, _, rfl, ?_⟩
    rw [str_pick]
    refine iteF ?_
    refine ⟨_, rfl, al, _, _, _, rfl, rfl, SqL.of h1, atI_1, wl, _, rfl, by rw [← intsV_ints]; exact SqL.of h2, ?_⟩
    rw [ints_sum]
    have hsum := sum_le_of o3
    refine ⟨_, rfl, al, _, _, _, rfl, rfl, SqL.of h1, atI_2, c, rfl, ⟨_, SqL.of h3⟩, for_list (K := K) (a := c) (xs := cs) (fun i σ H' => ∃ (N : Nat) (a b : Option V), σ = [some (.ref al), some (.int (N : Nat)), a, b] ∧ H' = H ∧ 0 < N ∧ N ∣ 2520 ∧ ws.sum ∣ N ∧ ∀ k, k < i → pos ws k = true → (kid k).Dv N)
      ⟨ws.sum, none, none, rfl, rfl, o1, dvd2520 o1 (by omega), Nat.dvd_refl _, fun k hk => by omega⟩ (fun i σ H' _ ⟨_, _, _, _, e, _⟩ => by rw [e]; exact SqL.of h3) ?_ ?_⟩
    · rintro i x σ H' hi ⟨N, a, b', rfl, rfl, hN0, hN, hNs, hNk⟩
      have il := lt_of_get hi
      rw [hcl] at il
      cases ep : pos ws i with
      | false =>
        have e := (hk i il).2 ep
        rw [hi] at e
        obtain rfl := Option.some.inj e
        refine ⟨_, rfl, _, rfl, iteF ⟨N, some .non, b', rfl, rfl, hN0, hN, hNs, fun k hk1 hp => ?_⟩⟩
        rcases Nat.lt_or_ge k i with z | z
        · exact hNk k z hp
        · have e : k = i := by omega
          rw [e, ep] at hp
          cases hp
      | true =>
        obtain ⟨u, e, hut⟩ := (hk i il).1 ep
        rw [hi] at e
        obtain rfl := Option.some.inj e
        obtain ⟨au, rfl⟩ := hut.ref
        refine ⟨_, rfl, _, rfl, iteT ?_⟩
        refine ⟨_, rfl, B, fm, m1, _, kid i, rfl, hut, o4 i ep, dp i ep, by omega, fun M hM0 hM hMd => ?_⟩
        have lN : N ≤ 2520 := Nat.le_of_dvd (by decide) hN
        have lM : M ≤ 2520 := Nat.le_of_dvd (by decide) hM
        have g0 : 0 < Nat.gcd N M := Nat.gcd_pos_of_pos_left _ hN0
        have g1 : Nat.gcd N M ≤ N := Nat.le_of_dvd hN0 (Nat.gcd_dvd_left N M)
        refine ⟨_, rfl, _, rfl, _, _, rfl, rfl, .inl ⟨by omega, by omega⟩, _, rfl, _, rfl, N, M, rfl, by omega, _, rfl, ?_⟩
        rw [abs_nat]
        refine ⟨_, _, rfl, ?_⟩
        rw [max_gcd g0]
        refine ⟨_, _, rfl, rfl, ⟨by omega, by omega⟩, ?_⟩
        have el : ((N : Nat) : Int) * ((M : Nat) : Int) / ((Nat.gcd N M : Nat) : Int) = ((Nat.lcm N M : Nat) : Int) := by
          rw [← Int.natCast_mul, ← Int.natCast_ediv]
          rfl
        refine ⟨Nat.lcm N M, some (.ref au), some (.int ((M : Nat) : Int)), ?_, rfl, Nat.lcm_pos hN0 hM0, Nat.lcm_dvd hN hM, Nat.dvd_trans hNs (Nat.dvd_lcm_left N M), fun k hk1 hp => ?_⟩
        · rw [← el]
          rfl
        · rcases Nat.lt_or_ge k i with z | z
          · exact (hNk k z hp).mono (Nat.dvd_lcm_left N M)
          · have e : k = i := by omega
            rw [e]
            exact hMd.mono (Nat.dvd_lcm_right N M)
    · rintro σ H' ⟨N, a, b', rfl, rfl, hN0, hN, hNs, hNk⟩
      rw [hcl] at hNk
      exact ⟨_, rfl, q N hN0 hN ⟨hNs, fun k hp => hNk k (pos_lt hp) hp⟩⟩
theorem ok_commons {f : Addr} {fd : FuncData} (F : Fun K "_law_common" "_law_common" sCommon f fd) (hS : Has P w K mg base "_law_shared" 1 ["_law_first", "_law_second"] spShared) (b : Binds K fd ["_law_tree_here"] []) (m : mg "_law_common" = some (.ref f)) (gMax : mg "max" = none)
    (gAbs : mg "abs" = none) (gSum : mg "sum" = none) : ∀ n : Nat, FnOk P w K mg base CX0 (1 + n) f fd ["_law_tree_here"] (spCommon n)
  | 0 => fn_never fun vs H Q E h => by
    obtain ⟨B, fm, m', v, t, _, _, _, _, h1, _⟩ := h
    omega
  | n + 1 => ok_common F hS (ok_commons F hS b m gMax gAbs gSum n) b m gMax gAbs gSum
end
end Fd
/-! All lists of places. -/
namespace Fd
open PySem PySem.Spec PyProof.Rows L2
def ListOk (H : Hp) (v : V) (l : List Nat) : Prop := ∃ a, v = .ref a ∧ H a = some (.lst (intsV l))
abbrev ListsV (H : Hp) : List V → List (List Nat) → Prop := Paired (ListOk H)
theorem ListsV.same {H H' : Hp} {vs : List V} {L : List (List Nat)} (s : Same H H') (h : ListsV H vs L) : ListsV H' vs L := Paired.mapP h fun _ _ ⟨a, e, q⟩ => ⟨a, e, s _ _ q⟩
theorem lists_lenV {H : Hp} {vs : List V} {L : List (List Nat)} (h : ListsV H vs L) : vs.length = L.length := Paired.length h
theorem paired_append {α β : Type} {F : α → β → Prop} : ∀ {xs xs' : List α} {ys ys' : List β}, Paired F xs ys → Paired F xs' ys' → Paired F (xs ++ xs') (ys ++ ys')
  | _, _, _, _, .nil, h => h
  | _, _, _, _, .cons r t, h => .cons r (paired_append t h)
/-- a list of lists holds none of them that is itself -/
theorem lists_put {H : Hp} {D : Addr} {acc : List V} {x : HO} (hD : H D = some (.lst acc)) : ∀ {acc' : List V} {L : List (List Nat)}, ListsV H acc' L → (∀ v ∈ acc', v ∈ acc) → ListsV (upd H D x) acc' L
  | _, _, .nil, _ => .nil
  | _, _, .cons (a := v) (b := l) r t, h => by
    obtain ⟨a, e, ha⟩ := r
    refine .cons ⟨a, e, ?_⟩ (lists_put hD t fun u hu => h u (List.mem_cons_of_mem _ hu))
    have hne : a ≠ D := fun z => by
      rw [z, hD] at ha
      have e2 : acc = intsV l := HO.lst.inj (Option.some.inj ha)
      have hm := h v List.mem_cons_self
      rw [e2, e] at hm
      obtain ⟨k, _, hk⟩ := List.mem_map.mp hm
      cases hk
    rw [upd_ne hne]
    exact ha
/-- _law_lists(side, depth) -/
def spLists : Sp := fun vs H Q _ => ∃ N d : Nat, vs = [.int (N : Nat), .int (d : Nat)] ∧ 0 < N ∧ d ≤ 3 ∧ N ^ d ≤ 1800 ∧ N ≤ 4000 ∧ ∀ (r : Addr) (ls : List V) (H' : Hp), Same H H' → H' r = some (.lst ls) → ListsV H' ls (lists N d) → Q (.ref r) H'
theorem listsE_len (N d : Nat) : (listsE N d).length = N ^ d := by rw [listsE_eq, lists_len]
theorem listsE_at {N d : Nat} {l : List Nat} (h : l ∈ listsE N d) : l.length = d := by
  rw [listsE_eq] at h
  exact (lists_at N d l h).1
theorem lt_line {n : Nat} (h : n ≤ 10000) : n < sizeLine := by
  have e : sizeLine = 16777216 := sizeLine_eq
  omega
theorem flatMap_len {N : Nat} : ∀ L : List (List Nat), (L.flatMap fun l => (List.range N).map fun n => l ++ [n]).length = L.length * N
  | [] => by simp
  | a :: r => by rw [List.flatMap_cons, List.length_append, flatMap_len r, List.length_map, List.length_range, List.length_cons, Nat.succ_mul]; omega
section
variable {P : Program} {w : World} {K : PySem.W.Frag} {mg : Str → Option Value} {base : Heap}
theorem scLists : FnScope ["_law_side", "_law_depth_here", "_law_found", "_law_turn", "_law_longer", "_law_one", "_law_number"] ["_law_side", "_law_depth_here"] (defScope sLists) := ⟨rfl, rfl, rfl, by decide +kernel, rfl, by decide +kernel, by decide +kernel⟩
theorem ok_lists {f : Addr} {fd : FuncData} (F : Fun K "_law_lists" "_law_lists" sLists f fd) (gRange : mg "range" = none) : FnOk P w K mg base CX0 1 f fd ["_law_side", "_law_depth_here"] spLists := by
  refine F.ok scLists (fun vs H Q E h => ?_) (fun cdv A outer s H vs Q E hr h => ?_)
  · obtain ⟨N, d, rfl, _⟩ := h
    rfl
  obtain ⟨N, d, rfl, hN, hd, hpw, hN4, q⟩ := h
  refine ⟨_, pss_cons (ps_set (i := 2) scLists.nd rfl (Or.inl rfl) (pe_lst (pa_cons (pe_lst pa_nil) pa_nil)))
    (pss_cons (ps_for PassesOwn.never rfl (pi_range1 rfl gRange (pa_cons (pv 1) pa_nil)) (pg_name (i := 3) scLists.nd rfl (Or.inl rfl))
      (pss_cons (ps_set (i := 4) scLists.nd rfl (Or.inl rfl) (pe_lst pa_nil))
      (pss_cons (ps_for PassesOwn.never rfl (pi_list (pv 2)) (pg_name (i := 5) scLists.nd rfl (Or.inr rfl))
        (pss_one (ps_set (i := 4) scLists.nd rfl (Or.inl rfl) (pe_op op_cat (pv 4) (pe_lc (own := [("_law_number", 6)]) (g := gName 6) (tt := tYes) rfl scLists.nd (pi_range1 rfl gRange (pa_cons (pv 0) pa_nil))
          (blkOk_by (N := ["_law_side", "_law_depth_here", "_law_found", "_law_turn", "_law_longer", "_law_one", "_law_number"]) (sc := defScope sLists) (by decide +kernel)) (fun _ _ _ _ _ => pg_name (i := 6) scLists.nd rfl (Or.inl rfl)) (fun _ _ _ _ _ => pts_nil)
          (fun _ _ _ _ _ => pe_op op_cat (pv 5) (pe_lst (pa_cons (pv 6) pa_nil))))))))
      (pss_one (ps_set (i := 2) scLists.nd rfl (Or.inl rfl) (pv 4))))))
    (pss_one (ps_ret (pv 2)))), ?_⟩
  have powle : ∀ j, j ≤ d → N ^ j ≤ 1800 := fun j hj => Nat.le_trans (Nat.pow_le_pow_right hN hj) hpw
  refine ⟨Nat.zero_le _, fun p0 hp0 => ⟨(by show 1 ≤ sizeLine; decide), fun r0 hr0 => ?_⟩⟩
  have s0 : Same H (upd (upd H p0 (.lst [])) r0 (.lst [.ref p0])) := (Same.new hp0 _).trans (Same.new hr0 _)
  have h0 : (upd (upd H p0 (.lst [])) r0 (.lst [.ref p0])) r0 = some (.lst [.ref p0]) := upd_same
  have hl0 : ListsV (upd (upd H p0 (.lst [])) r0 (.lst [.ref p0])) [.ref p0] (listsE N 0) := .cons ⟨p0, rfl, Same.new hr0 _ _ _ upd_same⟩ .nil
  revert s0 h0 hl0
  generalize upd (upd H p0 (.lst [])) r0 (.lst [.ref p0]) = H0
  intro s0 h0 hl0
  refine ⟨_, rfl, _, rfl, by omega, by omega, for_range (lo := 0) (n := d) (fun i σ H' => ∃ (r : Addr) (ls : List V) (a b o : Option V), σ = [some (.int (N : Nat)), some (.int (d : Nat)), some (.ref r), a, b, o, none] ∧ Same H H' ∧ H' r = some (.lst ls) ∧ ListsV H' ls (listsE N i))
    ⟨r0, [.ref p0], none, none, none, rfl, s0, h0, hl0⟩ ?_ ?_⟩
  · rintro i σ H1 hi ⟨r, ls, a, b, o, rfl, s1, hr1, hl1⟩
    refine ⟨Nat.zero_le _, fun lg hlg => ?_⟩
    have s2 : Same H1 (upd H1 lg (.lst [])) := Same.new hlg _
    have h2 := s2 _ _ hr1
    have hlen1 : ls.length = N ^ i := by rw [lists_lenV hl1, listsE_len]
    refine ⟨_, rfl, r, rfl, ⟨_, SqL.of h2⟩, for_list (K := K) (a := r) (xs := ls) (fun j σ H' => ∃ (lg' : Addr) (gs : List V) (a o : Option V), σ = [some (.int (N : Nat)), some (.int (d : Nat)), some (.ref r), a, some (.ref lg'), o, none] ∧ Same H1 H' ∧ H' lg' = some (.lst gs) ∧ ListsV H' gs (((listsE N i).take j).flatMap fun l => (List.range N).map fun n => l ++ [n]))
      ⟨lg, [], _, _, rfl, s2, upd_same, .nil⟩ (fun j σ H' _ ⟨_, _, _, _, _, sm, _⟩ => SqL.of (sm _ _ hr1)) ?_ ?_⟩
    · rintro j x σ H2 hj ⟨lg', gs, a', o', rfl, s3, hg, hgl⟩
      obtain ⟨l, hlj, al, rfl, hal⟩ := paired_get hl1 hj
      have jl := lt_of_get hj
      have hal2 := s3 _ _ hal
      have gl := lists_lenV hgl
      rw [flatMap_len, List.length_take, listsE_len] at gl
      have gl2 : gs.length + N ≤ 1800 := by
        have z1 : j + 1 ≤ N ^ i := by omega
        have z2 : (j + 1) * N ≤ N ^ i * N := Nat.mul_le_mul_right _ z1
        have z3 := powle (i + 1) (by omega)
        rw [show N ^ (i + 1) = N ^ i * N from Nat.pow_succ N i] at z3
        rw [Nat.min_eq_left (by omega)] at gl
        rw [Nat.succ_mul] at z2
        omega
      have ll : l.length = i := listsE_at (List.mem_of_getElem? hlj)
      refine ⟨_, rfl, _, rfl, _, rfl, by omega, by omega, fun D hD => ?_⟩
      refine lc_range (lo := 0) (n := N) (fun k H' => Same H2 H' ∧ ∃ acc : List V, H' D = some (.lst acc) ∧ acc.length = k ∧ ListsV H' acc ((List.range k).map fun n => l ++ [n])) ⟨Same.new hD _, [], upd_same, rfl, .nil⟩ ?_ ?_
      · rintro k H3 hk ⟨s4, acc, hacc, hal', hL⟩
        refine ⟨rfl, ?_⟩
        refine ⟨_, rfl, _, rfl, (by show 1 ≤ sizeLine; decide), fun p hp => ?_⟩
        have s5 : Same H3 (upd H3 p (.lst [.int (0 + ((k : Nat) : Int))])) := Same.new hp _
        refine ⟨al, p, intsV l, [.int (0 + ((k : Nat) : Int))], rfl, rfl, s5 _ _ (s4 _ _ hal2), upd_same, ?_, fun p2 hp2 => ?_⟩
        · rw [intsV_len, ll]
          show i + 1 ≤ sizeLine
          exact Nat.le_of_lt (small1000 (by omega))
        have s6 := s5.trans (Same.new hp2 (.lst (intsV l ++ [.int (0 + ((k : Nat) : Int))])))
        have hacc6 := s6 _ _ hacc
        have e1 : intsV l ++ [.int (0 + ((k : Nat) : Int))] = intsV (l ++ [k]) := by
          unfold intsV
          rw [List.map_append, Int.zero_add]
          rfl
        have s7 : Same (upd H3 p (.lst [.int (0 + ((k : Nat) : Int))])) (upd (upd H3 p (.lst [.int (0 + ((k : Nat) : Int))])) p2 (.lst (intsV l ++ [.int (0 + ((k : Nat) : Int))]))) := Same.new hp2 _
        have hp2' : (upd (upd H3 p (.lst [.int (0 + ((k : Nat) : Int))])) p2 (.lst (intsV l ++ [.int (0 + ((k : Nat) : Int))]))) p2 = some (.lst (intsV (l ++ [k]))) := by rw [upd_same, e1]
        have np2 : D ≠ p2 := ne_of_none (s5 _ _ hacc) hp2
        refine ⟨acc, hacc6, lt_line (by omega), Same.put (s4.trans s6) hD _, acc ++ [.ref p2], upd_same, by rw [List.length_append, hal']; rfl, ?_⟩
        rw [List.range_succ, List.map_append]
        exact paired_snoc (lists_put hacc6 (hL.same s6) fun v hv => hv) ⟨p2, rfl, by rw [upd_ne (Ne.symm np2)]; exact hp2'⟩
      · rintro H3 ⟨s4, acc, hacc, hal', hL⟩
        have hg3 := s4 _ _ hg
        refine ⟨lg', D, gs, acc, rfl, rfl, hg3, hacc, Nat.le_of_lt (lt_line (by omega)), fun r2 hr2 => ?_⟩
        have s5 : Same H3 (upd H3 r2 (.lst (gs ++ acc))) := Same.new hr2 _
        refine ⟨r2, gs ++ acc, _, _, rfl, (s3.trans s4).trans s5, upd_same, ?_⟩
        rw [take_next hlj, List.flatMap_append]
        refine paired_append ((hgl.same s4).same s5) ?_
        have e2 : ([l].flatMap fun l => (List.range N).map fun n => l ++ [n]) = (List.range N).map fun n => l ++ [n] := by
          rw [List.flatMap_cons, List.flatMap_nil, List.append_nil]
        rw [e2]
        exact hL.same s5
    · rintro σ H2 ⟨lg', gs, a', o', rfl, s3, hg, hgl⟩
      have e2 : (listsE N i).take ls.length = listsE N i := List.take_of_length_le (by rw [hlen1, listsE_len]; exact Nat.le_refl _)
      rw [e2] at hgl
      exact ⟨_, rfl, lg', gs, _, _, _, rfl, s1.trans s3, hg, hgl⟩
  · rintro σ H' ⟨r, ls, a, b, o, rfl, s1, hr1, hl1⟩
    rw [listsE_eq] at hl1
    exact ⟨_, rfl, q r ls H' s1 hr1 hl1⟩
end
end Fd
/-! Lemmas for the law: steps of paths, rows as data, the explorer and a new list. -/
namespace Fd
open PySem PySem.Spec PyProof.Rows L2
section
variable {O : Type}
theorem leaf_steps : ∀ (t : Tr O) (d : Nat), t.Ok → t.Dp d → ∀ q ∈ leaves t, (∀ s ∈ q.1, s.1 ≤ 100 ∧ s.2.length ≤ 100) ∧ q.1.length ≤ d
  | .leaf o, d, _, _, q, hq => by
    have e : q = ([], o) := List.mem_singleton.mp hq
    subst e
    exact ⟨fun s hs => by simp at hs, Nat.zero_le _⟩
  | .node ws kid, 0, _, h, _, _ => h.elim
  | .node ws kid, d + 1, ok, dp, q, hq => by
    obtain ⟨hs, hl, _, hk⟩ := ok
    obtain ⟨k, hk3, hq⟩ := List.mem_flatMap.mp hq
    by_cases hp : pos ws k = true
    · rw [if_pos hp] at hq
      obtain ⟨r, hr, e⟩ := List.mem_map.mp hq
      subst e
      obtain ⟨a, b⟩ := leaf_steps (kid k) d (hk k hp) (dp k hp) r hr
      refine ⟨fun s hs => ?_, by show r.1.length + 1 ≤ d + 1; omega⟩
      rcases List.mem_cons.mp hs with z | z
      · rw [z]
        have := pos_lt hp
        refine ⟨?_, ?_⟩
        · show k ≤ 100
          omega
        · show ws.length ≤ 100
          omega
      · exact a s z
    · rw [if_neg hp] at hq
      simp at hq
theorem adv_len : ∀ {p q : Path}, adv p = some q → q.length ≤ p.length
  | [], q, h => by cases h
  | (k, ws) :: r, q, h => by
    have h : (match adv r with
      | some r' => some ((k, ws) :: r')
      | none => (nxt ws k).map fun m => [(m, ws)]) = some q := h
    cases e : adv r with
    | some r' =>
      rw [e] at h
      have h2 : (k, ws) :: r' = q := Option.some.inj h
      rw [← h2]
      have := adv_len e
      show r'.length + 1 ≤ r.length + 1
      omega
    | none =>
      rw [e] at h
      cases e2 : nxt ws k with
      | none =>
        rw [e2] at h
        cases h
      | some m =>
        rw [e2] at h
        have h2 : [(m, ws)] = q := Option.some.inj h
        rw [← h2]
        show 1 ≤ r.length + 1
        omega
theorem chain_at {t : Tr O} : ∀ {L : List (Path × O)} {i : Nat} {q : Path × O}, Chain t L → L[i]? = some q →
    (∀ q', L[i + 1]? = some q' → ∃ p, adv q.1 = some p ∧ Pre t p ∧ run t p = q') ∧ (L[i + 1]? = none → adv q.1 = none)
  | [], i, q, _, h => by simp at h
  | [a], 0, q, hc, h => by
    have e : a = q := Option.some.inj h
    subst e
    exact ⟨fun q' h' => by simp at h', fun _ => hc⟩
  | [a], i + 1, q, hc, h => by simp at h
  | a :: b :: L, 0, q, hc, h => by
    have e : a = q := Option.some.inj h
    subst e
    refine ⟨fun q' h' => ?_, fun h' => by simp at h'⟩
    have e : b = q' := Option.some.inj h'
    subst e
    exact hc.1
  | a :: b :: L, i + 1, q, hc, h => chain_at (L := b :: L) (i := i) hc.2 h
end
/-! ### rows as data -/
def dO : Out → PyData
  | .i n => .int n
  | .s x => .str x
  | .t n x => .tuple [.int n, .str x]
def dRow (n : Nat) (q : Out × Nat) : PyData := .tuple [dO q.1, .tuple [.int ((fr q.2 n).1 : Nat), .int ((fr q.2 n).2 : Nat)]]
theorem dp_out {K : PySem.W.Frag} {H : Hp} : ∀ {o : Out} {v : V}, OutV H o v → Dp K H v (dO o)
  | .i n, v, h => by
    have h : v = .int n := h
    rw [h]
    exact .int n
  | .s x, v, h => by
    have h : v = .str x := h
    rw [h]
    exact .str x
  | .t n x, v, h => by
    obtain ⟨a, rfl, ha⟩ := h
    exact .tup (SqT.of ha) (.cons (.int n) (.cons (.str x) .nil))
theorem dp_rows {K : PySem.W.Frag} {H : Hp} {n : Nat} : ∀ {xs : List V} {rs : List (Out × Nat)}, RowsV K H n xs rs → DpAll K H xs (rs.map (dRow n))
  | _, _, .nil => .nil
  | _, _, .cons (a := v) (b := q) r t => by
    obtain ⟨a, u, c, rfl, ha, ho, hf⟩ := r
    exact .cons (.tup (SqT.of ha) (.cons (dp_out ho) (.cons (dp_fr hf) .nil))) (dp_rows t)
theorem lay_out {o : Out} (h : o.good) : (dO o).canLay0 = true ∧ (dO o).depth ≤ 1 := by
  cases o with
  | i n => exact ⟨rfl, Nat.zero_le _⟩
  | s x => exact ⟨h, Nat.zero_le _⟩
  | t n x =>
    have h : (PyData.str x).canLay0 = true := h
    refine ⟨?_, Nat.le_refl _⟩
    show (PyData.canLay0 (.int n) && (PyData.canLay0 (.str x) && true)) = true
    rw [h]
    rfl
theorem lay_row {n : Nat} {q : Out × Nat} (h : q.1.good) : (dRow n q).canLay0 = true ∧ (dRow n q).depth ≤ 2 := by
  obtain ⟨h1, h2⟩ := lay_out h
  refine ⟨?_, ?_⟩
  · show (PyData.canLay0 (dO q.1) && _) = true
    rw [h1]
    rfl
  · show max (PyData.depth (dO q.1)) 1 + 1 ≤ 2
    omega
theorem lay_rows {n : Nat} : ∀ {rs : List (Out × Nat)}, (∀ q ∈ rs, q.1.good) → PyData.canLayAll0 (rs.map (dRow n)) = true ∧ PyData.depthAll (rs.map (dRow n)) ≤ 2
  | [], _ => ⟨rfl, Nat.zero_le _⟩
  | q :: r, h => by
    obtain ⟨h1, h2⟩ := lay_row (n := n) (h q List.mem_cons_self)
    obtain ⟨h3, h4⟩ := lay_rows (n := n) (rs := r) fun x hx => h x (List.mem_cons_of_mem _ hx)
    refine ⟨?_, ?_⟩
    · show (PyData.canLay0 (dRow n q) && PyData.canLayAll0 (r.map (dRow n))) = true
      rw [h1, h3]
      rfl
    · show max (PyData.depth (dRow n q)) (PyData.depthAll (r.map (dRow n))) ≤ 2
      omega
theorem shaped_rows {n : Nat} {rs : List (Out × Nat)} (h : ∀ q ∈ rs, q.1.good) : SeqAt.shaped (.list (rs.map (dRow n))) = true ∧ PyData.eqv (.list (rs.map (dRow n))) (.list (rs.map (dRow n))) = true := by
  obtain ⟨h1, h2⟩ := lay_rows (n := n) h
  have h3 : PyData.canLay0 (.list (rs.map (dRow n))) = true := h1
  refine ⟨?_, SeqAt.eqv_refl _ h3⟩
  unfold SeqAt.shaped
  rw [h3, Bool.true_and]
  refine decide_eq_true ?_
  show PyData.depthAll (rs.map (dRow n)) + 1 ≤ 64
  omega
/-! ### the explorer beside a new list -/
section
variable {K : PySem.W.Frag} {H : Hp} {n : Nat} {e : XA} {op ov : Bool} {at_ : Nat} {c : Nat × Nat} {p : Path} {rows : List (Out × Nat)}
theorem XOk.avoid (h : XOk K H n e op ov at_ c p rows) (l : List Addr) (hl : ∀ b ∈ l, H b = none) : XOk K H n { e with no := l } op ov at_ c p rows := by
  obtain ⟨⟨dx, cv, ps, rv, a1, a2, a3, a4, a5, a6⟩, ne⟩ := h
  refine ⟨⟨dx, cv, ps, rv, a1, a2, a3, Paired.mapP a4 fun v s ⟨t, wl, e1, h1, h2, h3, h4, _⟩ => ⟨t, wl, e1, h1, h2, h3, h4, fun m => ?_⟩, a5, a6⟩, ne⟩
  rw [hl wl m] at h2
  cases h2
theorem XOk.forget (h : XOk K H n e op ov at_ c p rows) : XOk K H n { e with no := [] } op ov at_ c p rows := by
  obtain ⟨⟨dx, cv, ps, rv, a1, a2, a3, a4, a5, a6⟩, ne⟩ := h
  exact ⟨⟨dx, cv, ps, rv, a1, a2, a3, Paired.mapP a4 fun v s ⟨t, wl, e1, h1, h2, h3, h4, _⟩ => ⟨t, wl, e1, h1, h2, h3, h4, by simp⟩, a5, a6⟩, ne⟩
theorem XA.eta (h : e.no = []) : { e with no := [] } = e := by
  cases e
  simp at h
  subst h
  rfl
end
/-- the outcomes of a tree are good, of one form -/
theorem good_leaves {B H : Hp} {fm : Nat} : ∀ {t : Tr Out} {v : V}, TreeAt B H fm t v → ∀ q ∈ leaves t, q.2.form = fm ∧ q.2.good
  | .leaf o, v, ⟨f, g, _⟩, q, hq => by
    have e : q = ([], o) := List.mem_singleton.mp hq
    subst e
    exact ⟨f, g⟩
  | .node ws kid, v, ⟨a, wl, c, cs, e, b1, b2, b3, h1, h2, h3, hl, hk⟩, q, hq => by
    obtain ⟨k, hk3, hq⟩ := List.mem_flatMap.mp hq
    by_cases hp : pos ws k = true
    · rw [if_pos hp] at hq
      obtain ⟨r, hr, e⟩ := List.mem_map.mp hq
      subst e
      obtain ⟨u, hu, hut⟩ := (hk k (pos_lt hp)).1 hp
      exact good_leaves hut r hr
    · rw [if_neg hp] at hq
      simp at hq
theorem tot_bag (N d : Nat) (o : Out) (L : List (Path × Out)) : tot o (L.map fun q => (q.2, cst N d q.1)) = bag N d o L := by
  unfold tot bag
  rw [List.map_map]
  rfl
end Fd
/-! The law. -/
namespace Fd
open PySem PySem.Spec PyProof.Rows L2
def spLaw (K : PySem.W.Frag) : Sp := fun vs H Q _ => ∃ (a : Addr) (ns : List Int), vs = [.ref a] ∧ SqL K H a (ns.map V.int) ∧ ns.length ≤ 63 ∧ ∀ H', Q (.bl true) H'
theorem Has.up {P : Program} {w : World} {K : PySem.W.Frag} {mg : Str → Option Value} {base : Heap} {x : Str} {j k : Nat} {ps : List Str} {sp : Sp} (h : Has P w K mg base x j ps sp) (hk : j ≤ k) : Has P w K mg base x k ps sp :=
  let ⟨f, fd, m, G, b, kp⟩ := h; ⟨f, fd, m, G.mono hk, b, kp⟩
theorem HasM.up {P : Program} {w : World} {K : PySem.W.Frag} {mg : Str → Option Value} {base : Heap} {C : Addr} {x : Str} {j k : Nat} {ps : List Str} {sp : Sp} (h : HasM P w K mg base C x j ps sp) (hk : j ≤ k) : HasM P w K mg base C x k ps sp :=
  let ⟨f, fd, m, G, b⟩ := h; ⟨f, fd, m, G.mono hk, b⟩
/-- the class at C is made by an __init__ that keeps the promise sp -/
def HasI (P : Program) (w : World) (K : PySem.W.Frag) (mg : Str → Option Value) (base : Heap) (C : Addr) (k : Nat) (ps : List Str) (sp : Sp) : Prop :=
  ∃ (f : Addr) (fd : FuncData), Mk K C f ∧ FnOk P w K mg base CX0 k f fd ps sp ∧ Binds K fd ps []
theorem HasI.up {P : Program} {w : World} {K : PySem.W.Frag} {mg : Str → Option Value} {base : Heap} {C : Addr} {j k : Nat} {ps : List Str} {sp : Sp} (h : HasI P w K mg base C j ps sp) (hk : j ≤ k) : HasI P w K mg base C k ps sp :=
  let ⟨f, fd, m, G, b⟩ := h; ⟨f, fd, m, G.mono hk, b⟩
/-- all that the law asks of the module -/
structure LawH (P : Program) (w : World) (K : PySem.W.Frag) (mg : Str → Option Value) (base : Heap) (CX CT : Addr) : Prop where
  deck : Has P w K mg base "_law_deck" 6 ["_law_script"] (spDeck K)
  draw : Has P w K mg base "_law_draw" 6 ["_law_deck_here", "_law_most"] spDraw
  tree : Has P w K mg base "_law_tree" 6 ["_law_deck_here", "_law_depth_here", "_law_form"] (spTree 4)
  common : Has P w K mg base "_law_common" 6 ["_law_tree_here"] (spCommon 4)
  depth : Has P w K mg base "_law_depth" 6 ["_law_tree_here"] (spDepth 4)
  power : Has P w K mg base "_law_power" 6 ["_law_side", "_law_depth_here"] spPower
  lists : Has P w K mg base "_law_lists" 6 ["_law_side", "_law_depth_here"] spLists
  low : Has P w K mg base "_law_low" 6 ["_law_p", "_law_q"] spLow
  deedX : Has P w K mg base "_law_deed" 6 ["_law_tree_here", "_law_dice", "_law_path"] (spDeedX CX K)
  deedT : Has P w K mg base "_law_deed" 6 ["_law_tree_here", "_law_dice", "_law_path"] (spDeedT CT)
  xInit : HasI P w K mg base CX 5 ["self"] (spXInit K CX)
  xBegin : HasM P w K mg base CX "begin" 6 ["self"] (spXBegin K CX)
  xEnd : HasM P w K mg base CX "end" 6 ["self", "outcome"] (spXEnd K CX)
  xGath : HasM P w K mg base CX "gathered" 6 ["self"] (spXGathered K CX)
  tInit : HasI P w K mg base CT 5 ["self", "numbers"] (spTInit K CT)
  clX : Cls K CX
  gX : mg "Explorer" = some (.ref CX)
  gT : mg "Tape" = some (.ref CT)
  gInt : mg "int" = none
  gRange : mg "range" = none
  gSorted : mg "sorted" = none
  gList : mg "list" = none
  gLen : mg "len" = none
/-- the tree as the law has it -/
structure TG (H : Hp) (t : Tr Out) (tv : V) (fm side dpt : Nat) : Prop where
  tr : TreeAt (fun _ => none) H fm t tv
  ok : t.Ok
  dv : t.Dv side
  dp : t.Dp dpt
  s0 : 0 < side
  s1 : side ≤ 4000
  d3 : dpt ≤ 3
  pw : side ^ dpt ≤ 1800
theorem TG.same {H H' : Hp} {t : Tr Out} {tv : V} {fm side dpt : Nat} (s : Same H H') (g : TG H t tv fm side dpt) : TG H' t tv fm side dpt := ⟨g.tr.same s, g.ok, g.dv, g.dp, g.s0, g.s1, g.d3, g.pw⟩
theorem TG.few {H : Hp} {t : Tr Out} {tv : V} {fm side dpt : Nat} (g : TG H t tv fm side dpt) : (leaves t).length ≤ 27 := by
  have h := leaves_few t dpt g.ok g.dp
  have h2 : 3 ^ dpt ≤ 3 ^ 3 := Nat.pow_le_pow_right (by decide) g.d3
  have h3 : (3 : Nat) ^ 3 = 27 := by decide
  omega
theorem TG.pos {H : Hp} {t : Tr Out} {tv : V} {fm side dpt : Nat} (g : TG H t tv fm side dpt) : 0 < side ^ dpt := Nat.pow_pos g.s0
/-- the rows of the leaves -/
def rowsOf (side dpt : Nat) (L : List (Path × Out)) : List (Out × Nat) := L.map fun q => (q.2, cst side dpt q.1)
def Mid1 (σ : L2.St) (H : Hp) : Prop := ∃ (a0 dk : Option V) (tv : V) (side dpt fm : Nat) (t : Tr Out), σ = [a0, dk, some tv, some (.int (side : Nat)), some (.int (dpt : Nat)), none, none, none, none, none, none, none] ∧ TG H t tv fm side dpt
def Mid2 (K : PySem.W.Frag) (CX : Addr) (σ : L2.St) (H : Hp) : Prop := ∃ (a0 dk o6 : Option V) (tv : V) (side dpt fm : Nat) (t : Tr Out) (e : XA) (at_ : Nat) (c : Nat × Nat) (p : Path),
  σ = [a0, dk, some tv, some (.int (side : Nat)), some (.int (dpt : Nat)), some (.ref e.x), o6, none, none, none, none, none] ∧ TG H t tv fm side dpt ∧ e.C = CX ∧ XOk K H (side ^ dpt) e false true at_ c p (rowsOf side dpt (leaves t))
def Mid3 (K : PySem.W.Frag) (CX : Addr) (σ : L2.St) (H : Hp) : Prop := ∃ (a0 dk o6 o9 o10 : Option V) (tv : V) (side dpt fm : Nat) (t : Tr Out) (e : XA) (at_ : Nat) (c : Nat × Nat) (p : Path) (cd ll : Addr) (kvs : List (Out × V)) (ls : List V),
  σ = [a0, dk, some tv, some (.int (side : Nat)), some (.int (dpt : Nat)), some (.ref e.x), o6, some (.ref cd), some (.ref ll), o9, o10, none] ∧ TG H t tv fm side dpt ∧ e.C = CX ∧ XOk K H (side ^ dpt) e false true at_ c p (rowsOf side dpt (leaves t)) ∧
  H cd = some (dictO fm kvs) ∧ DI fm kvs ((lists side dpt).map (follow t)) ∧ (∀ o v, valV kvs o = some v → v = .int ((((lists side dpt).map (follow t)).count o : Nat) : Int)) ∧ H ll = some (.lst ls) ∧ ls.length = side ^ dpt
/-- the tree that stands in for one that is too large -/
def tFall : Tr Out := .node [1, 2] fun k => if k = 0 then .leaf (.i 3) else .leaf (.i 5)
section
variable {P : Program} {w : World} {K : PySem.W.Frag} {mg : Str → Option Value} {base : Heap} {CX CT : Addr}
/-- the turns of the explorer's loop -/
def PvX (K : PySem.W.Frag) (H6 : Hp) (a0 dk : Option V) (tv : V) (side dpt : Nat) (t : Tr Out) (e : XA) (i : Nat) (σ : L2.St) (H' : Hp) : Prop := ∃ (o6 : Option V) (at_ : Nat) (c : Nat × Nat) (p : Path),
  σ = [a0, dk, some tv, some (.int (side : Nat)), some (.int (dpt : Nat)), some (.ref e.x), o6, none, none, none, none, none] ∧ Same H6 H' ∧ i ≤ (leaves t).length ∧ XOk K H' (side ^ dpt) e false false at_ c p (rowsOf side dpt ((leaves t).take i)) ∧
  (i = 0 → p = []) ∧ ∀ q, 0 < i → (leaves t)[i - 1]? = some q → p = q.1
theorem rowsOf_next {side dpt i : Nat} {L : List (Path × Out)} {q : Path × Out} (h : L[i]? = some q) : rowsOf side dpt (L.take (i + 1)) = rowsOf side dpt (L.take i) ++ [(q.2, cst side dpt q.1)] := by
  unfold rowsOf
  rw [take_next h, List.map_append]
  rfl
theorem rowsOf_len {side dpt : Nat} {L : List (Path × Out)} : (rowsOf side dpt L).length = L.length := List.length_map _
theorem step_x {H6 H2 : Hp} {a0 dk o6 : Option V} {tv : V} {side dpt fm i : Nat} {t : Tr Out} {e : XA} {p' : Path} {ql : Path × Out} {D : Ends} (g : TG H6 t tv fm side dpt) (eno : e.no = []) (eC : e.C = CX) (hx0 : H6 e.x = none) (hp0 : H6 e.pl = none) (hr0 : H6 e.rl = none)
    (s2 : Same H6 H2) (hL : (leaves t)[i]? = some ql) (pre : Pre t p') (hp3 : p'.length ≤ 3) (hrun : run t p' = ql) (hX : XOk K H2 (side ^ dpt) e true false 0 (1, 1) p' (rowsOf side dpt ((leaves t).take i))) (hD : D.nx = PvX K H6 a0 dk tv side dpt t e (i + 1)) :
    tDrop (tMeth CX "end" (spXEnd K CX) [] E0 (tVar 5) (tCons (tCall (spDeedX CX K) [] E0 (tCons (tVar 2) (tCons (tVar 5) (tCons (tLst tNil) tNil)))) tNil)) D
      [a0, dk, some tv, some (.int (side : Nat)), some (.int (dpt : Nat)), some (.ref e.x), o6, none, none, none, none, none] H2 := by
  subst eC
  obtain ⟨⟨dx, cv, ps, rv, a1, a2, a3, a4, a5, a6⟩, ne⟩ := id hX
  have few := g.few
  have il := lt_of_get hL
  have hq := List.mem_of_getElem? hL
  obtain ⟨hfr, hcp⟩ := leaf_fr side g.s0 g.ok g.dv g.dp hq
  refine ⟨_, rfl, e.x, dx, _, rfl, a1, xf_no_end _ _ _ _ _ _ _, _, rfl, _, rfl, Nat.zero_le _, fun lp hlp => ?_⟩
  have hl0 : H6 lp = none := s2.free hlp
  have sl : Same H2 (upd H2 lp (.lst [])) := Same.new hlp _
  have nlp : lp ≠ e.pl := fun z => by rw [z, a3] at hlp; cases hlp
  have nlr : lp ≠ e.rl := fun z => by rw [z, a5] at hlp; cases hlp
  refine ⟨fun _ => none, H6, fm, side ^ dpt, dpt, { e with no := [lp] }, t, p', _, tv, lp, rfl, rfl, g.tr, s2.trans sl, hx0, hp0, hl0, upd_same, nlp, nlr, rfl, g.ok, g.dp, g.d3, pre, hp3, XOk.same sl (hX.avoid [lp] fun b hb => by rw [List.mem_singleton.mp hb]; exact hlp), fun u H3 at3 k3 hX3 ho => ?_⟩
  rw [hrun] at hX3 ho
  rw [hfr] at hX3
  have hX4 : XOk K H3 (side ^ dpt) e true false at3 (fr (cst side dpt ql.1) (side ^ dpt)) ql.1 (rowsOf side dpt ((leaves t).take i)) := by
    have z := hX3.forget
    have ee : ({ ({ e with no := [lp] } : XA) with no := [] } : XA) = e := XA.eta eno
    rw [ee] at z
    exact z
  have s3 : Same H6 H3 := Same.keep (s2.trans sl) k3 fun b hb => by
    rcases List.mem_cons.mp hb with z | z
    · rw [z]; exact hx0
    · rcases List.mem_cons.mp z with z | z
      · rw [z]; exact hp0
      · rw [List.mem_singleton.mp z]; exact hl0
  refine ⟨e, side ^ dpt, at3, u, ql.2, cst side dpt ql.1, ql.1, _, rfl, rfl, hX4, ho, ?_, fun H4 k4 hX5 => ?_⟩
  · rw [rowsOf_len, List.length_take]
    omega
  rw [hD]
  refine ⟨o6, at3, fr (cst side dpt ql.1) (side ^ dpt), ql.1, rfl, Same.keep s3 k4 fun b hb => ?_, by omega, ?_, fun z => by omega, fun q _ hq' => ?_⟩
  · rcases List.mem_cons.mp hb with z | z
    · rw [z]; exact hx0
    · rw [List.mem_singleton.mp z]; exact hr0
  · rw [rowsOf_next hL]
    exact hX5
  · rw [Nat.add_sub_cancel, hL] at hq'
    rw [Option.some.inj hq']
end
end Fd
/-! The law, walked. -/
namespace Fd
open PySem PySem.Spec PyProof.Rows L2
section
variable {P : Program} {w : World} {K : PySem.W.Frag} {mg : Str → Option Value} {base : Heap} {CX CT : Addr}
theorem scLaw : FnScope ["_law_script", "_law_deck_here", "_law_tree_here", "_law_side", "_law_depth_here", "_law_explorer", "_law_turn", "_law_counts", "_law_lists_here", "_law_numbers", "_law_outcome", "_law_due"] ["_law_script"] (defScope sLaw) := ⟨rfl, rfl, rfl, by decide +kernel, rfl, by decide +kernel, by decide +kernel⟩
theorem ok_law {f : Addr} {fd : FuncData} (F : Fun K "law" "law" sLaw f fd) (L : LawH P w K mg base CX CT) : FnOk P w K mg base CX0 7 f fd ["_law_script"] (spLaw K) := by
  obtain ⟨fDeck, dDeck, mDeck, GDeck, bDeck, kDeck⟩ := L.deck
  obtain ⟨fDraw, dDraw, mDraw, GDraw, bDraw, kDraw⟩ := L.draw
  obtain ⟨fTree, dTree, mTree, GTree, bTree, kTree⟩ := L.tree
  obtain ⟨fCommon, dCommon, mCommon, GCommon, bCommon, kCommon⟩ := L.common
  obtain ⟨fDepth, dDepth, mDepth, GDepth, bDepth, kDepth⟩ := L.depth
  obtain ⟨fPower, dPower, mPower, GPower, bPower, kPower⟩ := L.power
  obtain ⟨fLists, dLists, mLists, GLists, bLists, kLists⟩ := L.lists
  obtain ⟨fLow, dLow, mLow, GLow, bLow, kLow⟩ := L.low
  obtain ⟨fDX, dDX, mDX, GDX, bDX, kDX⟩ := L.deedX
  obtain ⟨fDT, dDT, mDT, GDT, bDT, kDT⟩ := L.deedT
  obtain ⟨fXI, dXI, MX, GXI, bXI⟩ := L.xInit
  obtain ⟨fXB, dXB, mXB, GXB, bXB⟩ := L.xBegin
  obtain ⟨fXE, dXE, mXE, GXE, bXE⟩ := L.xEnd
  obtain ⟨fXG, dXG, mXG, GXG, bXG⟩ := L.xGath
  obtain ⟨fTI, dTI, MT, GTI, bTI⟩ := L.tInit
  refine F.ok scLaw (fun vs H Q E h => ?_) (fun cdv A outer s H vs Q E hr h => ?_)
  · obtain ⟨a, ns, rfl, _⟩ := h
    rfl
  obtain ⟨a, ns, rfl, ha, h63, q⟩ := h
  have hu := hu_of hr
  refine ⟨_, pss_cons (ps_set (i := 1) scLaw.nd rfl (Or.inl rfl) (pe_call GDeck hr rfl mDeck kDeck bDeck .nil pass0 (pa_cons (pv 0) pa_nil)))
    (pss_cons (ps_set (i := 2) scLaw.nd rfl (Or.inl rfl) (pe_call GTree hr rfl mTree kTree bTree .nil pass0 (pa_cons (pv 1) (pa_cons (pe_op op_add pe_int (pe_callTy call_int1 (by rfl) L.gInt (by decide +kernel) (pa_cons (pe_cmpR op_eq (pe_call GDraw hr rfl mDraw kDraw bDraw .nil pass0 (pa_cons (pv 1) (pa_cons pe_int pa_nil))) pe_int (nomark _)) pa_nil)))
      (pa_cons (pe_call GDraw hr rfl mDraw kDraw bDraw .nil pass0 (pa_cons (pv 1) (pa_cons pe_int pa_nil))) pa_nil)))))
    (pss_cons (ps_set (i := 3) scLaw.nd rfl (Or.inl rfl) (pe_call GCommon hr rfl mCommon kCommon bCommon .nil pass0 (pa_cons (pv 2) pa_nil)))
    (pss_cons (ps_set (i := 4) scLaw.nd rfl (Or.inl rfl) (pe_call GDepth hr rfl mDepth kDepth bDepth .nil pass0 (pa_cons (pv 2) pa_nil)))
    (C8.pss_cut (ps_if (pt_cmpR op_gt (pe_call GPower hr rfl mPower kPower bPower .nil pass0 (pa_cons (pv 3) (pa_cons (pv 4) pa_nil))) pe_int (nomark _))
      (pss_cons (ps_set (i := 2) scLaw.nd rfl (Or.inl rfl) (pe_lst (pa_cons pe_str (pa_cons (pe_lst (pa_cons pe_int (pa_cons pe_int pa_nil))) (pa_cons (pe_lst (pa_cons (pe_lst (pa_cons pe_str (pa_cons pe_int pa_nil))) (pa_cons (pe_lst (pa_cons pe_str (pa_cons pe_int pa_nil))) pa_nil))) pa_nil)))))
      (pss_cons (ps_set (i := 3) scLaw.nd rfl (Or.inl rfl) pe_int) (pss_one (ps_set (i := 4) scLaw.nd rfl (Or.inl rfl) pe_int)))) pss_nil)
    (pss_cons (ps_set (i := 5) scLaw.nd rfl (Or.inl rfl) (pe_make0 MX GXI hr rfl L.gX bXI .nil pass0))
    (C8.pss_cut (ps_for PassesOwn.never rfl (pi_range1 rfl L.gRange (pa_cons pe_int pa_nil)) (pg_name (i := 6) scLaw.nd rfl (Or.inl rfl))
      (pss_cons (ps_if (pt_not (pt_val (pe_meth0 (pv 5) L.clX mXB GXB hr bXB .nil pass0))) (pss_one ps_break) pss_nil)
      (pss_one (ps_expr (pe_meth (pv 5) L.clX mXE GXE hr bXE .nil pass0 (pa_cons (pe_call GDX hr rfl mDX kDX bDX .nil pass0 (pa_cons (pv 2) (pa_cons (pv 5) (pa_cons (pe_lst pa_nil) pa_nil)))) pa_nil))))))
    (pss_cons (ps_set (i := 7) scLaw.nd rfl (Or.inr rfl) pe_dnewO)
    (pss_cons (ps_set (i := 8) scLaw.nd rfl (Or.inr rfl) (pe_call GLists hr rfl mLists kLists bLists .nil pass0 (pa_cons (pv 3) (pa_cons (pv 4) pa_nil))))
    (C8.pss_cut (ps_for PassesOwn.never rfl (pi_list (pv 8)) (pg_name (i := 9) scLaw.nd rfl (Or.inl rfl))
      (pss_cons (ps_set (i := 10) scLaw.nd rfl (Or.inl rfl) (pe_call GDT hr rfl mDT kDT bDT .nil pass0 (pa_cons (pv 2) (pa_cons (pe_make MT GTI hr rfl L.gT bTI .nil pass0 (pa_cons (pv 9) pa_nil)) (pa_cons (pe_lst pa_nil) pa_nil)))))
      (pss_one (ps_dput hu (pv 7) (pv 10) (pe_op op_add (pe_dget2 hu (pv 7) (pv 10) pe_int ⟨rfl, rfl, rfl, rfl⟩) pe_int) rfl))))
    (pss_cons (ps_setLc (i := 11) (own := [("_law_outcome", 10)]) (g := gName 10) (tt := tYes) (te := tTup (tCons (tVar 10) (tCons (tCall spLow [] E0 (tCons (tDGet (tVar 7) (tVar 10)) (tCons (tCB (fun xs H Q => ∃ p ys, xs = [.ref p] ∧ (SqL K H p ys ∨ SqT K H p ys) ∧ Q (.int ys.length) H) (tCons (tVar 8) tNil)) tNil))) tNil))) rfl scLaw.nd rfl rfl (sw_true rfl rfl rfl (by decide +kernel))
        (pi_list (pe_callB cr_sortO (by rfl) L.gSorted (by decide +kernel) (pa_cons (pe_callTy (cr_listDO rfl) (by rfl) L.gList (by decide +kernel) (pa_cons (pv 7) pa_nil)) pa_nil)))
        (blkOk_by (N := ["_law_script", "_law_deck_here", "_law_tree_here", "_law_side", "_law_depth_here", "_law_explorer", "_law_turn", "_law_counts", "_law_lists_here", "_law_numbers", "_law_outcome", "_law_due"]) (sc := defScope sLaw) (by decide +kernel))
        (fun _ _ _ _ _ => pg_name (i := 10) scLaw.nd rfl (Or.inl rfl)) (fun _ _ _ _ _ => pts_nil)
        (fun _ _ _ _ _ => pe_tup (pa_cons (pv 10) (pa_cons (pe_call GLow hr rfl mLow kLow bLow .nil pass0 (pa_cons (pe_dget hu (pv 7) (pv 10) (fun _ _ => rfl)) (pa_cons (pe_callB call_len_seq (by rfl) L.gLen PySem.boot_len (pa_cons (pv 8) pa_nil)) pa_nil))) pa_nil))))
    (pss_one (ps_ret (pe_cmpR (op_eqD hr.units) (pe_meth0 (pv 5) L.clX mXG GXG hr bXG .nil pass0) (pv 11) (nomark _)))))))))))))), ?_⟩
  refine ⟨_, rfl, a, ns, rfl, ha, fun d c H1 s1 hd0 hc0 hdk => ?_⟩
  -- the tree
  refine ⟨_, rfl, _, rfl, d, c, 4, rfl, by decide, by decide, hdk, fun v1 H2 hv1 k2 dk2 => ⟨rfl, .inr ⟨_, rfl, _, _, rfl, rfl, ?_⟩⟩⟩
  refine ⟨_, rfl, d, c, 3, rfl, by decide, by decide, dk2, fun fm H3 hfm k3 dk3 => ?_⟩
  obtain ⟨dp0, edp, hdp0⟩ : ∃ dp0 : Nat, (2 : Int) + (if decide (V.int ((v1 : Nat) : Int) = V.int 0) = true then 1 else 0) = ((dp0 : Nat) : Int) ∧ dp0 < 4 := by
    by_cases z : decide (V.int ((v1 : Nat) : Int) = V.int 0) = true
    · rw [if_pos z]
      exact ⟨3, rfl, by decide⟩
    · rw [if_neg z]
      exact ⟨2, rfl, by decide⟩
  refine ⟨d, c, dp0, fm, ?_, hdp0, by omega, dk3, fun tv t H4 k4 dk4 htr hok hdp => ?_⟩
  · rw [← edp]
    rfl
  have htr0 : TreeAt (fun _ => none) H4 fm t tv := htr.base fun _ _ => rfl
  refine ⟨_, rfl, _, fm, dp0, tv, t, rfl, htr0, hok, hdp, by omega, fun side hs0 hs1 hdv => ?_⟩
  have hs2 : side ≤ 2520 := Nat.le_of_dvd (by decide) hs1
  refine ⟨_, rfl, _, fm, dp0, tv, t, rfl, htr0, hok, hdp, by omega, by decide, fun dpt H5 s5 hdpt hdle => ?_⟩
  refine ⟨Mid1, ?_, ?_⟩
  · refine ⟨_, rfl, _, rfl, side, dpt, rfl, by omega, by omega, _, _, rfl, rfl, _, rfl, ?_⟩
    refine ite2 (fun _ => ?_) (fun cp => ?_)
    · refine ⟨(by show 2 ≤ sizeLine; decide), fun w1 hw1 => ⟨(by show 2 ≤ sizeLine; decide), fun e3 he3 => ⟨(by show 2 ≤ sizeLine; decide), fun e5 he5 => ⟨(by show 2 ≤ sizeLine; decide), fun cl hcl => ⟨(by show 3 ≤ sizeLine; decide), fun rt hrt => ?_⟩⟩⟩⟩⟩
      have a1 := Same.new he3 (.lst [.str "end", .int 3])
      have a2 := Same.new he5 (.lst [.str "end", .int 5])
      have a3 := Same.new hcl (.lst [.ref e3, .ref e5])
      have a4 := Same.new hrt (.lst [.str "pick", .ref w1, .ref cl])
      refine ⟨_, _, _, 3, 1, 0, tFall, rfl, ⟨?_, ⟨by decide, by decide, by decide, fun k hk => ?_⟩, ⟨by decide, fun k hk => ?_⟩, fun k hk => ?_, by decide, by decide, by decide, by decide⟩⟩
      · refine ⟨rt, w1, cl, [.ref e3, .ref e5], rfl, rfl, rfl, rfl, upd_same, a4 _ _ (a3 _ _ (a2 _ _ (a1 _ _ upd_same))), a4 _ _ upd_same, rfl, fun k hk => ?_⟩
        have hk2 : k = 0 ∨ k = 1 := by
          have : k < 2 := hk
          omega
        rcases hk2 with rfl | rfl
        · exact ⟨fun _ => ⟨.ref e3, rfl, rfl, trivial, e3, .int 3, rfl, rfl, a4 _ _ (a3 _ _ (a2 _ _ upd_same)), rfl⟩, fun z => by cases z⟩
        · exact ⟨fun _ => ⟨.ref e5, rfl, rfl, trivial, e5, .int 5, rfl, rfl, a4 _ _ (a3 _ _ upd_same), rfl⟩, fun z => by cases z⟩
      · show Tr.Ok (if k = 0 then .leaf (Out.i 3) else .leaf (Out.i 5))
        by_cases z : k = 0
        · rw [if_pos z]; trivial
        · rw [if_neg z]; trivial
      · show Tr.Dv 3 (if k = 0 then .leaf (Out.i 3) else .leaf (Out.i 5))
        by_cases z : k = 0
        · rw [if_pos z]; trivial
        · rw [if_neg z]; trivial
      · show Tr.Dp (if k = 0 then .leaf (Out.i 3) else .leaf (Out.i 5)) 0
        by_cases z : k = 0
        · rw [if_pos z]; trivial
        · rw [if_neg z]; trivial
    · have c2 : ¬ (1800 : Int) < ((side ^ dpt : Nat) : Int) := fun z => cp (decide_eq_true z)
      exact ⟨_, _, tv, side, dpt, fm, t, rfl, ⟨htr0.same s5, hok, hdv, hdpt, hs0, by omega, by omega, by omega⟩⟩
  clear htr htr0 k4 dk4 k3 dk3 k2 dk2 hdk
  rintro σ1 H6 ⟨a0, dk, tv, side, dpt, fm, t, rfl, g⟩
  -- the explorer
  intro x dx nx ndx nex
  have s0 : Same H6 (upd (upd H6 dx (.own x)) x (.ins CX dx [])) := fun b o e => by
    rw [upd_ne (ne_of_none e nx), upd_ne (ne_of_none e ndx)]
    exact e
  refine ⟨x, dx, rfl, upd_same, fun H7 e eC ex eno k7 hpl hrl hX => ⟨rfl, ?_⟩⟩
  subst ex
  have hp0 : H6 e.pl = none := s0.free hpl
  have hr0 : H6 e.rl = none := s0.free hrl
  have s7 : Same H6 H7 := Same.keep s0 k7 fun b hb => by rw [List.mem_singleton.mp hb]; exact nx
  have few := g.few
  obtain ⟨⟨L', hL'⟩, hch⟩ := leaves_run t g.ok
  refine ⟨Mid2 K CX, ⟨99, rfl, by decide, by decide, for_range (lo := 0) (n := 99) (fun i => PvX K H6 a0 dk tv side dpt t e i) ⟨none, 0, (1, 1), [], rfl, s7, Nat.zero_le _, hX _, fun _ => rfl, fun q h _ => absurd h (by decide)⟩ ?_ ?_⟩, ?_⟩
  · rintro i σ H' hi ⟨o6, at_, c', p, rfl, s8, hiL, hXi, hp1, hp2⟩
    obtain ⟨⟨dx2, cv, ps, rv, a1, a2, a3, a4, a5, a6⟩, ne⟩ := id hXi
    have hrows : (rowsOf side dpt ((leaves t).take i)).length = i := by
      rw [rowsOf_len, List.length_take]
      omega
    -- the list of picks of the last run
    have hpq : p = [] ∨ ∃ q, 0 < i ∧ (leaves t)[i - 1]? = some q ∧ p = q.1 := by
      rcases Nat.eq_zero_or_pos i with z | z
      · exact .inl (hp1 z)
      · have hlt : i - 1 < (leaves t).length := by omega
        exact .inr ⟨_, z, List.getElem?_eq_getElem hlt, hp2 _ z (List.getElem?_eq_getElem hlt)⟩
    have hsm : (∀ s ∈ p, s.1 ≤ 100 ∧ s.2.length ≤ 100) ∧ p.length ≤ 3 := by
      rcases hpq with z | ⟨q0, _, hq, z⟩
      · rw [z]
        exact ⟨fun s hs => by simp at hs, Nat.zero_le _⟩
      · rw [z]
        obtain ⟨h1, h2⟩ := leaf_steps t dpt g.ok g.dp q0 (List.mem_of_getElem? hq)
        exact ⟨h1, Nat.le_trans h2 g.d3⟩
    have kS : ∀ b ∈ [e.x, e.pl], H6 b = none := fun b hb => by
      rcases List.mem_cons.mp hb with z | z
      · rw [z]; exact nx
      · rw [List.mem_singleton.mp z]; exact hp0
    refine ⟨_, rfl, e.x, dx2, _, rfl, eC ▸ a1, xf_no_begin _ _ _ _ _ _ _, e, side ^ dpt, at_, c', p, _, eC, rfl, hXi, hsm.1, by rw [hrows]; omega, by omega, ?_, ?_, ?_⟩
    · intro hr H2 k2 hX2
      refine ⟨_, rfl, iteF ?_⟩
      have i0 : i = 0 := by
        rw [hr] at hrows
        exact hrows.symm
      subst i0
      have p0 : p = [] := hp1 rfl
      subst p0
      exact step_x g eno eC nx hp0 hr0 (Same.keep s8 k2 kS) (by rw [hL']; rfl) (pre_nil t) (Nat.zero_le _) rfl hX2 rfl
    · intro hr q' H2 ha k2 hX2
      refine ⟨_, rfl, iteF ?_⟩
      rcases hpq with z | ⟨q0, hi0, hq, z⟩
      · rw [z] at ha
        cases ha
      · obtain ⟨c1, c2⟩ := chain_at hch hq
        have ei : i - 1 + 1 = i := by omega
        rw [ei] at c1 c2
        cases eq : (leaves t)[i]? with
        | none =>
          rw [← z, ha] at c2
          cases c2 eq
        | some ql =>
          obtain ⟨p2, e1, e2, e3⟩ := c1 ql eq
          rw [← z, ha] at e1
          have e4 : q' = p2 := Option.some.inj e1
          subst e4
          exact step_x g eno eC nx hp0 hr0 (Same.keep s8 k2 kS) eq e2 (Nat.le_trans (adv_len ha) hsm.2) e3 hX2 rfl
    · intro hr H2 ha k2 hX2
      refine ⟨_, rfl, iteT ?_⟩
      have iL : i = (leaves t).length := by
        rcases hpq with z | ⟨q0, hi0, hq, z⟩
        · rcases Nat.eq_zero_or_pos i with z2 | z2
          · subst z2
            exact (hr rfl).elim
          · have hlt : i - 1 < (leaves t).length := by omega
            obtain ⟨c1, c2⟩ := chain_at hch (List.getElem?_eq_getElem hlt)
            have z3 := hp2 _ z2 (List.getElem?_eq_getElem hlt)
            have ei : i - 1 + 1 = i := by omega
            rw [ei] at c1
            rcases Nat.lt_or_ge i (leaves t).length with z4 | z4
            · obtain ⟨p2, e1, _⟩ := c1 _ (List.getElem?_eq_getElem z4)
              rw [← z3, ha] at e1
              cases e1
            · omega
        · obtain ⟨c1, c2⟩ := chain_at hch hq
          have ei : i - 1 + 1 = i := by omega
          rw [ei] at c1
          rcases Nat.lt_or_ge i (leaves t).length with z4 | z4
          · obtain ⟨p2, e1, _⟩ := c1 _ (List.getElem?_eq_getElem z4)
            rw [← z, ha] at e1
            cases e1
          · omega
      rw [iL, List.take_length] at hX2
      exact ⟨a0, dk, _, tv, side, dpt, fm, t, e, at_, c', [], rfl, g.same (Same.keep s8 k2 kS), eC, hX2⟩
  · rintro σ H' ⟨o6, at_, c', p, rfl, s8, hiL, _⟩
    exfalso
    omega
  clear hch hL' few s7 hp0 hr0 hpl hrl k7 hX s0 nex ndx nx g eno eC
  rintro σ2 H8 ⟨a0, dk, o6, tv, side, dpt, fm, t, e, at_, c, p, rfl, g, eC, hX⟩
  -- the counts
  refine ⟨fm, fun cd hcd => ?_⟩
  have sc : Same H8 (upd H8 cd (dictO fm [])) := Same.new hcd _
  refine ⟨_, rfl, _, rfl, side, dpt, rfl, g.s0, g.d3, g.pw, g.s1, fun ll ls H9 s9 hll hls => ?_⟩
  have s89 : Same H8 H9 := sc.trans s9
  have hcd9 : H9 cd = some (dictO fm []) := s9 _ _ upd_same
  have lsl := lists_lenV hls
  have formOf : ∀ l ∈ lists side dpt, (follow t l).form = fm := fun l hl => by
    have hm := (same_outs side g.s0 g.ok g.dv g.dp (follow t l)).mpr (List.mem_map.mpr ⟨l, hl, rfl⟩)
    obtain ⟨qq, hq, e1⟩ := List.mem_map.mp hm
    rw [← e1]
    exact (good_leaves g.tr qq hq).1
  have notD : ∀ {b : Addr} {xs : List V}, H9 b = some (.lst xs) → b ∉ [cd] := fun {b xs} hb m => by
    rw [List.mem_singleton.mp m, hcd9] at hb
    unfold dictO at hb
    by_cases z : fm = 2
    · rw [if_pos z] at hb; cases hb
    · rw [if_neg z] at hb; cases hb
  refine ⟨Mid3 K CX, ⟨_, rfl, ll, rfl, ⟨_, SqL.of hll⟩, for_list (K := K) (a := ll) (xs := ls) (fun j σ H' => ∃ (o9 o10 : Option V) (kvs : List (Out × V)),
      σ = [a0, dk, some tv, some (.int (side : Nat)), some (.int (dpt : Nat)), some (.ref e.x), o6, some (.ref cd), some (.ref ll), o9, o10, none] ∧ Keep [cd] H9 H' ∧ H' cd = some (dictO fm kvs) ∧ DI fm kvs (((lists side dpt).take j).map (follow t)) ∧
      ∀ o v, valV kvs o = some v → v = .int (((((lists side dpt).take j).map (follow t)).count o : Nat) : Int))
    ⟨none, none, [], rfl, Keep.refl _ H9, hcd9, DI.nil fm, fun o v z => by cases z⟩ (fun j σ H' _ ⟨_, _, _, _, kp, _⟩ => SqL.of (kp.at_ _ _ (notD hll) hll)) ?_ ?_⟩, ?_⟩
  · rintro j x σ H' hj ⟨o9, o10, kvs, rfl, kp, hd, di, hv⟩
    obtain ⟨l, hlj, al, rfl, hal⟩ := paired_get hls hj
    have hl := List.mem_of_getElem? hlj
    have hal' := kp.at_ _ _ (notD hal) hal
    have s8' : Same H8 H' := Same.keep s89 kp fun b hb => by rw [List.mem_singleton.mp hb]; exact hcd
    refine ⟨_, rfl, _, rfl, fun x dx nx ndx nex => ?_⟩
    have sa : Same H' (upd (upd H' dx (.own x)) x (.ins CT dx [])) := fun b o e => by
      rw [upd_ne (ne_of_none e nx), upd_ne (ne_of_none e ndx)]
      exact e
    refine ⟨x, dx, al, l, rfl, upd_same, SqL.of (sa _ _ hal'), fun H10 nl k10 hnl hT => ⟨rfl, ?_⟩⟩
    have s10 : Same H' H10 := Same.keep sa k10 fun b hb => by rw [List.mem_singleton.mp hb]; exact nx
    refine ⟨Nat.zero_le _, fun lp hlp => ?_⟩
    have sl : Same H10 (upd H10 lp (.lst [])) := Same.new hlp _
    have hl0 : H' lp = none := s10.free hlp
    obtain ⟨⟨dxx, hxx⟩, hnn⟩ := hT
    have nln : lp ≠ nl := fun z => by rw [z, hnn] at hlp; cases hlp
    refine ⟨fun _ => none, H', fm, dpt, x, nl, l, t, tv, lp, rfl, g.tr.same s8', s10.trans sl, nx, hl0, upd_same, nln, g.ok, g.dp, g.d3, ⟨⟨dxx, sl _ _ hxx⟩, sl _ _ hnn⟩, fun u H11 k11 ho => ?_⟩
    have s11 : Same H' H11 := Same.keep (s10.trans sl) k11 fun b hb => by
      rcases List.mem_cons.mp hb with z | z
      · rw [z]; exact nx
      · rw [List.mem_singleton.mp z]; exact hl0
    have hd11 := s11 _ _ hd
    have fo := formOf l hl
    have etk := take_next hlj
    have hval : (valV kvs (follow t l)).getD (.int 0) = .int (((((lists side dpt).take j).map (follow t)).count (follow t l) : Nat) : Int) := by
      cases ev : valV kvs (follow t l) with
      | some v => exact hv _ v ev
      | none =>
        rw [List.count_eq_zero_of_not_mem (di.none_of ev)]
        rfl
    have dl := di.len
    rw [List.length_map, List.length_take] at dl
    have hll9 : (lists side dpt).length ≤ 1800 := by rw [lists_len]; exact g.pw
    refine ⟨_, rfl, cd, rfl, isDO hd11, _, rfl, _, dGetO hd11 di.form fo ho, _, _, hval, rfl, ?_⟩
    refine ⟨_, rfl, _, rfl, cd, _, rfl, dPutO (x := .int (((((lists side dpt).take j).map (follow t)).count (follow t l) + 1 : Nat) : Int)) hd11 di.form fo ho (lt_line (by omega)), ?_⟩
    refine ⟨some (.ref al), some u, putK kvs (follow t l) (.int (((((lists side dpt).take j).map (follow t)).count (follow t l) + 1 : Nat) : Int)), rfl, (kp.trans (Keep.of_same s11)).trans (Keep.put (List.mem_singleton.mpr rfl) hd11 mu_dictO _), upd_same, ?_, fun o v z => ?_⟩
    · rw [etk, List.map_append]
      exact di.put fo _
    · rw [valV_put] at z
      rw [etk, List.map_append, List.count_append]
      by_cases ez : o = follow t l
      · rw [if_pos ez] at z
        cases z
        rw [ez]
        have e1 : ([l].map (follow t)).count (follow t l) = 1 := by
          show ([follow t l] : List Out).count (follow t l) = 1
          rw [List.count_singleton_self]
        rw [e1]
      · rw [if_neg ez] at z
        have e1 : ([l].map (follow t)).count o = 0 := List.count_eq_zero_of_not_mem fun m => ez (List.mem_singleton.mp m)
        rw [e1, Nat.add_zero]
        exact hv o v z
  · rintro σ H' ⟨o9, o10, kvs, rfl, kp, hd, di, hv⟩
    have ea : (lists side dpt).take ls.length = lists side dpt := List.take_of_length_le (by rw [lsl]; exact Nat.le_refl _)
    rw [ea] at di hv
    have s8' : Same H8 H' := Same.keep s89 kp fun b hb => by rw [List.mem_singleton.mp hb]; exact hcd
    exact ⟨a0, dk, o6, o9, o10, tv, side, dpt, fm, t, e, at_, c, p, cd, ll, kvs, ls, rfl, g.same s8', eC, XOk.same s8' hX, hd, di, hv, kp.at_ _ _ (notD hll) hll, by rw [lsl, lists_len]⟩
  clear formOf notD hls hll hcd9 s89 sc s9 lsl hcd g eC hX
  rintro σ3 H12 ⟨a0, dk, o6, o9, o10, tv, side, dpt, fm, t, e, at_, c, p, cd, ll, kvs, ls, rfl, g, eC, hX, hd, di, hv, hll, lsl⟩
  have few := g.few
  have gl := good_leaves g.tr
  have npos := g.pos
  have lv_mem : ∀ o, o ∈ (leaves t).map (·.2) ↔ o ∈ (lists side dpt).map (follow t) := same_outs side g.s0 g.ok g.dv g.dp
  have kfew : (kvs.map (·.1)).length ≤ 27 := by
    have h1 := nodup_le di.nd (m := (leaves t).map (·.2)) fun o ho => (lv_mem o).mpr ((di.mem o).mp ho)
    rw [List.length_map (f := fun q : Path × Out => q.2)] at h1
    omega
  have forms : ∀ o ∈ kvs.map (·.1), o.form = fm ∧ o.good := fun o ho => by
    obtain ⟨qq, hq, e1⟩ := List.mem_map.mp ((lv_mem o).mpr ((di.mem o).mp ho))
    rw [← e1]
    exact gl qq hq
  -- the list that is due
  refine ⟨_, rfl, cd, kvs, fm, rfl, hd, di.form, fun ys0 p0 hov0 hp0 => ?_⟩
  have sp0 : Same H12 (upd H12 p0 (.lst ys0)) := Same.new hp0 _
  refine ⟨p0, ys0, kvs.map (·.1), fm, rfl, SqL.of upd_same, OutVs.keep (Keep.of_same (S := []) sp0) hov0, fun o ho => (forms o ho).1, di.nd, by omega, fun os ys ps pm pw hov hps => ?_⟩
  have sp1 : Same (upd H12 p0 (.lst ys0)) (upd (upd H12 p0 (.lst ys0)) ps (.lst ys)) := Same.new hps _
  have s13 : Same H12 (upd (upd H12 p0 (.lst ys0)) ps (.lst ys)) := sp0.trans sp1
  have hov13 : OutVs (upd (upd H12 p0 (.lst ys0)) ps (.lst ys)) os ys := OutVs.keep (Keep.of_same (S := []) sp1) hov
  have hps13 : (upd (upd H12 p0 (.lst ys0)) ps (.lst ys)) ps = some (.lst ys) := upd_same
  revert s13 hov13 hps13
  generalize upd (upd H12 p0 (.lst ys0)) ps (.lst ys) = H13
  intro s13 hov13 hps13
  have osl : os.length ≤ 27 := by rw [pm.length_eq]; exact kfew
  have ysl := OutVs.len hov13
  refine ⟨ps, rfl, ⟨ys, SqL.of hps13⟩, fun D hD => ?_⟩
  refine lc_list (K := K) (a := ps) (xs := ys) (fun i H' => Same H13 H' ∧ ∃ res : List V, H' D = some (.lst res) ∧ res.length = i ∧ RowsV K H' (side ^ dpt) res ((os.take i).map fun o => (o, ((lists side dpt).map (follow t)).count o)))
    ⟨Same.new hD _, [], upd_same, rfl, .nil⟩ (fun i H' _ ⟨sm, _⟩ => SqL.of (sm _ _ hps13)) ?_ ?_
  · rintro i y H' hi ⟨s14, res, hres, rl, rv⟩
    obtain ⟨o, hoi, hoy⟩ := paired_get2 hov13 hi
    have om : o ∈ kvs.map (·.1) := pm.mem_iff.mp (List.mem_of_getElem? hoi)
    obtain ⟨v, hvo⟩ := di.some_of ((di.mem o).mp om)
    have ev := hv o v hvo
    subst ev
    have s124 := s13.trans s14
    have hoy' := hoy.same s14
    have gg := dGetO (s124 _ _ hd) di.form (forms o om).1 hoy'
    rw [hvo] at gg
    have il := lt_of_get hi
    refine ⟨rfl, _, rfl, _, rfl, _, rfl, cd, _, rfl, gg, _, rfl, ll, ls, rfl, .inl (SqL.of (s124 _ _ hll)), ((lists side dpt).map (follow t)).count o, side ^ dpt, ?_, npos, by have := g.pw; omega, fun tq htq => ⟨(by show 2 ≤ sizeLine; decide), fun tp htp => ?_⟩⟩
    · rw [lsl]
      rfl
    have s15 : Same H' (upd H' tq (.tup (frL (fr (((lists side dpt).map (follow t)).count o) (side ^ dpt))))) := Same.new htq _
    have s16 : Same (upd H' tq (.tup (frL (fr (((lists side dpt).map (follow t)).count o) (side ^ dpt))))) (upd (upd H' tq (.tup (frL (fr (((lists side dpt).map (follow t)).count o) (side ^ dpt))))) tp (.tup [y, .ref tq])) := Same.new htp _
    have hfq : IsFr K (upd (upd H' tq (.tup (frL (fr (((lists side dpt).map (follow t)).count o) (side ^ dpt))))) tp (.tup [y, .ref tq])) (.ref tq) (fr (((lists side dpt).map (follow t)).count o) (side ^ dpt)) := IsFr.same s16 (isFr_new upd_same)
    have htp' : (upd (upd H' tq (.tup (frL (fr (((lists side dpt).map (follow t)).count o) (side ^ dpt))))) tp (.tup [y, .ref tq])) tp = some (.tup [y, .ref tq]) := upd_same
    have s17 := s15.trans s16
    revert hfq htp' s17
    generalize upd (upd H' tq (.tup (frL (fr (((lists side dpt).map (follow t)).count o) (side ^ dpt))))) tp (.tup [y, .ref tq]) = H17
    intro hfq htp' s17
    have hres17 := s17 _ _ hres
    have k18 := Keep.put (S := [D]) (List.mem_singleton.mpr rfl) hres17 trivial (HO.lst (res ++ [.ref tp]))
    refine ⟨res, hres17, small1000 (by omega), Same.put (s14.trans s17) hD _, res ++ [.ref tp], upd_same, by rw [List.length_append, rl]; rfl, ?_⟩
    rw [take_next hoi, List.map_append]
    exact paired_snoc ((rv.same s17).keep k18) ⟨tp, y, .ref tq, rfl, k18.tup _ _ htp', (hoy'.same s17).keep k18, hfq.keep k18⟩
  · rintro H' ⟨s14, res, hres, rl, rv⟩
    have eo : os.take ys.length = os := List.take_of_length_le (by rw [ysl]; exact Nat.le_refl _)
    rw [eo] at rv
    have s124 := s13.trans s14
    have hX' := XOk.same s124 hX
    obtain ⟨⟨dx, cv, ps', rv', a1, a2, a3, a4, a5, a6⟩, ne⟩ := id hX'
    -- return explorer.gathered() == due
    refine ⟨_, rfl, e.x, dx, _, rfl, eC ▸ a1, xf_no_gathered _ _ _ _ _ _ _, e, side ^ dpt, at_, fm, c, p, rowsOf side dpt (leaves t), eC, rfl, hX', npos, g.pw, ?_, by rw [rowsOf_len]; omega, fun qr hqr => ?_, fun r H'' ys2 os2 s2 hr pw2 mem2 rv2 => ?_⟩
    · have e1 : (rowsOf side dpt (leaves t)).map (·.2) = (leaves t).map fun q => cst side dpt q.1 := by
        unfold rowsOf
        rw [List.map_map]
        rfl
      rw [e1]
      exact bagAll_leaves side t dpt g.ok g.dv g.dp
    · obtain ⟨q0, hq0, e1⟩ := List.mem_map.mp hqr
      rw [← e1]
      exact ⟨(gl q0 hq0).1, (leaf_fr side g.s0 g.ok g.dv g.dp hq0).2⟩
    · have er : (rowsOf side dpt (leaves t)).map (·.1) = (leaves t).map (·.2) := by
        unfold rowsOf
        rw [List.map_map]
        rfl
      have eos : os2 = os := order_one Out.lt_asym pw2 pw fun o => by
        rw [mem2 o, er, lv_mem o, pm.mem_iff, di.mem o]
      subst eos
      have erow : (os2.map fun o => (o, tot o (rowsOf side dpt (leaves t)))) = os2.map fun o => (o, ((lists side dpt).map (follow t)).count o) := by
        apply List.map_congr_left
        intro o _
        have e1 : tot o (rowsOf side dpt (leaves t)) = ((lists side dpt).map (follow t)).count o := by
          have e2 := tot_bag side dpt o (leaves t)
          unfold rowsOf
          rw [e2]
          exact bag_count side g.s0 g.ok g.dv g.dp o
        rw [e1]
      rw [erow] at rv2
      have good2 : ∀ qq ∈ (os2.map fun o => (o, ((lists side dpt).map (follow t)).count o)), qq.1.good := fun qq hq => by
        obtain ⟨o, ho, e1⟩ := List.mem_map.mp hq
        rw [← e1]
        exact (forms o (pm.mem_iff.mp ho)).2
      obtain ⟨sh, ev⟩ := shaped_rows (n := side ^ dpt) good2
      refine ⟨_, rfl, _, _, .lst (SqL.of hr) (dp_rows rv2), .lst (SqL.of (s2 _ _ hres)) (dp_rows (rv.same s2)), sh, sh, ?_⟩
      rw [ev]
      exact q H''
end
end Fd
/-! What the top has written: its facts, collected. -/
namespace Fd
open PySem PySem.Spec PyProof.Rows L2
/-- the module's name x stands for the def st -/
def GF (K : PySem.W.Frag) (x : Str) (st : Stmt) : Prop := ∃ (f : Addr) (fd : FuncData), PySem.W.nsIn K mainGlobals x = some (some (.ref f)) ∧ Fun K x x st f fd
theorem gf_mk {K : PySem.W.Frag} {x : Str} {st : Stmt} {f : Addr} {oc : Value} {od an : Option Addr} {osl : Array (Option Value)} {kV doc pm cdv ct : Value} (a : PySem.W.nsIn K mainGlobals x = some (some (.ref f)))
    (l : K.lookup f = some ⟨oc, od, .func (PySem.W.fnOf x x (defArgs st) (defBody st) (defScope st) .none kV doc pm an cdv ct), osl⟩) (c : PySem.W.codeIn K cdv x = true) (k : PySem.W.keepIn K (.ref f) = true) : GF K x st := ⟨f, _, a, fun_mk l c k⟩
/-- the class at C has the method m, the def st -/
def MF (K : PySem.W.Frag) (C : Addr) (m q : Str) (st : Stmt) : Prop := ∃ (f : Addr) (fd : FuncData), PySem.W.findIn K (.ref C) m = some (some (.ref f)) ∧ PySem.W.isFn K (.ref f) = true ∧ Fun K m q st f fd
theorem mf_mk {K : PySem.W.Frag} {C : Addr} {m q : Str} {st : Stmt} {f : Addr} {oc : Value} {od an : Option Addr} {osl : Array (Option Value)} {kV doc pm cdv ct : Value} (a : PySem.W.findIn K (.ref C) m = some (some (.ref f))) (i : PySem.W.isFn K (.ref f) = true)
    (l : K.lookup f = some ⟨oc, od, .func (PySem.W.fnOf m q (defArgs st) (defBody st) (defScope st) .none kV doc pm an cdv ct), osl⟩) (c : PySem.W.codeIn K cdv q = true) (k : PySem.W.keepIn K (.ref f) = true) : MF K C m q st := ⟨f, _, a, i, fun_mk l c k⟩
/-- the module's name x stands for the fraction p -/
def TF (K : PySem.W.Frag) (x : Str) (p : Nat × Nat) : Prop := ∃ a : Addr, PySem.W.nsIn K mainGlobals x = some (some (.ref a)) ∧ ∀ H, SqT K H a (frL p)
theorem tf_mk {K : PySem.W.Frag} {x : Str} {p : Nat × Nat} {a : Addr} {od : Option Addr} {t u : Tok} {n : Nat} {osl : Array (Option Value)} (e : PySem.W.nsIn K mainGlobals x = some (some (.ref a)))
    (l : K.lookup a = some ⟨.type "tuple", od, .seq #[.int (p.1 : Nat) t, .int (p.2 : Nat) u] n, osl⟩) : TF K x p :=
  ⟨a, e, fun H => .inr ⟨_, _, n, l, rfl, rfl, (by show 2 ≤ sizeLine; decide), .cons ⟨t, rfl⟩ (.cons ⟨u, rfl⟩ .nil)⟩⟩
/-- the class at C -/
structure CF (K : PySem.W.Frag) (C : Addr) : Prop where
  cl : Cls K C
  mks : PySem.W.makesIn K C = true
  kc : PySem.W.keepIn K (.ref C) = true
section
variable {P : Program} {w : World} {K : PySem.W.Frag} {mg : Str → Option Value} {base h : Heap}
theorem has_of {x : Str} {st : Stmt} {k : Nat} {ps : List Str} {sp : Sp} (X : K.In h) (G : h.Ns mainGlobals mg) (g : GF K x st) (b : ∀ f fd, Fun K x x st f fd → Binds K fd ps []) (ok : ∀ f fd, Fun K x x st f fd → mg x = some (.ref f) → Binds K fd ps [] → FnOk P w K mg base CX0 k f fd ps sp) : Has P w K mg base x k ps sp := by
  obtain ⟨f, fd, a, F⟩ := g
  have m := PySem.W.mg_of X G a
  exact ⟨f, fd, m, ok f fd F m (b f fd F), b f fd F, F.kp⟩
theorem hasM_of {C : Addr} {m q : Str} {st : Stmt} {k : Nat} {ps : List Str} {sp : Sp} (g : MF K C m q st) (b : ∀ f fd, Fun K m q st f fd → Binds K fd ps []) (ok : ∀ f fd, Fun K m q st f fd → FnOk P w K mg base CX0 k f fd ps sp) : HasM P w K mg base C m k ps sp := by
  obtain ⟨f, fd, a, i, F⟩ := g
  exact ⟨f, fd, ⟨a, i, F.kp⟩, ok f fd F, b f fd F⟩
theorem hasI_of {C : Addr} {q : Str} {st : Stmt} {k : Nat} {ps : List Str} {sp : Sp} (c : CF K C) (g : MF K C "__init__" q st) (b : ∀ f fd, Fun K "__init__" q st f fd → Binds K fd ps []) (ok : ∀ f fd, Fun K "__init__" q st f fd → FnOk P w K mg base CX0 k f fd ps sp) : HasI P w K mg base C k ps sp := by
  obtain ⟨f, fd, a, i, F⟩ := g
  exact ⟨f, fd, ⟨c.mks, a, i, c.kc⟩, ok f fd F, b f fd F⟩
theorem all_end (X : K.In h) (G : h.Ns mainGlobals mg) {fa : Addr} (hfa : mg "law" = some (.ref fa)) {CX CT : Addr} {t0 : Tok}
    (cx : PySem.W.nsIn K mainGlobals "Explorer" = some (some (.ref CX))) (ct : PySem.W.nsIn K mainGlobals "Tape" = some (some (.ref CT))) (pgx : PySem.W.plainGet K CX Str.empty = true) (hdx : PySem.W.hasDictIn K CX = true) (pox : PySem.W.plainOver K CX = true) (sax : PySem.W.findIn K (.ref CX) "__setattr__" = some (some (.builtin "object.__setattr__"))) (mkx : PySem.W.makesIn K CX = true) (kcx : PySem.W.keepIn K (.ref CX) = true) (pgt : PySem.W.plainGet K CT Str.empty = true) (hdt : PySem.W.hasDictIn K CT = true) (pot : PySem.W.plainOver K CT = true) (sat : PySem.W.findIn K (.ref CT) "__setattr__" = some (some (.builtin "object.__setattr__"))) (mkt : PySem.W.makesIn K CT = true) (kct : PySem.W.keepIn K (.ref CT) = true) (nx_path : PySem.W.findIn K (.ref CX) "path" = some none) (nx_at : PySem.W.findIn K (.ref CX) "at" = some none) (nx_chance : PySem.W.findIn K (.ref CX) "chance" = some none) (nx_is_open : PySem.W.findIn K (.ref CX) "is_open" = some none) (nx_is_over : PySem.W.findIn K (.ref CX) "is_over" = some none) (nx_many : PySem.W.findIn K (.ref CX) "many" = some none) (nx_rows : PySem.W.findIn K (.ref CX) "rows" = some none) (nt_numbers : PySem.W.findIn K (.ref CT) "numbers" = some none) (nt_at : PySem.W.findIn K (.ref CT) "at" = some none) (gcd : PySem.W.nsIn K mainGlobals "gcd" = some (some (.builtin "math.gcd"))) (most : PySem.W.nsIn K mainGlobals "MOST_RUNS" = some (some (.int 20000 t0))) (z_len : PySem.W.nsIn K mainGlobals "len" = some none) (z_range : PySem.W.nsIn K mainGlobals "range" = some none) (z_list : PySem.W.nsIn K mainGlobals "list" = some none) (z_sum : PySem.W.nsIn K mainGlobals "sum" = some none) (z_any : PySem.W.nsIn K mainGlobals "any" = some none) (z_sorted : PySem.W.nsIn K mainGlobals "sorted" = some none) (z_enumerate : PySem.W.nsIn K mainGlobals "enumerate" = some none) (z_int : PySem.W.nsIn K mainGlobals "int" = some none) (z_max : PySem.W.nsIn K mainGlobals "max" = some none) (z_abs : PySem.W.nsIn K mainGlobals "abs" = some none)
    (nothing : TF K "NOTHING" (0, 1)) (one : TF K "ONE" (1, 1)) (g_lowest : GF K "lowest" sLowest) (g_plus : GF K "plus" sPlus) (g_times : GF K "times" sTimes) (g_less : GF K "less" sLess) (g_sumOf : GF K "sum_of" sSumOf) (g_are : GF K "are_chances" sAre) (g_lawFrom : GF K "law_from" sLawFrom) (g_numAt : GF K "number_at" sNumAt) (g_deck : GF K "_law_deck" sDeck) (g_draw : GF K "_law_draw" sDraw) (g_low : GF K "_law_low" sLow) (g_weights : GF K "_law_weights" sWeights) (g_tree : GF K "_law_tree" sTree) (g_deed : GF K "_law_deed" sDeed) (g_depth : GF K "_law_depth" sDepth) (g_common : GF K "_law_common" sCommon) (g_shared : GF K "_law_shared" sShared) (g_lists : GF K "_law_lists" sLists) (g_power : GF K "_law_power" sPower) (g_law : GF K "law" sLaw) (m_xInit : MF K CX "__init__" "Explorer.__init__" sXInit) (m_xAdvance : MF K CX "advance" "Explorer.advance" sXAdvance) (m_xBegin : MF K CX "begin" "Explorer.begin" sXBegin) (m_xPick : MF K CX "pick" "Explorer.pick" sXPick) (m_xEnd : MF K CX "end" "Explorer.end" sXEnd) (m_xGath : MF K CX "gathered" "Explorer.gathered" sXGathered) (m_tInit : MF K CT "__init__" "Tape.__init__" sTInit) (m_tPick : MF K CT "pick" "Tape.pick" sTPick) :
    ∃ fd : FuncData, (∀ (s : Shared) (u : Value), BindsTo s fd ⟨[u], []⟩ [("_law_script", u)]) ∧ ∀ base : Heap, K.In base → base.Ns mainGlobals mg → FnOk P w K mg base CX0 7 fa fd ["_law_script"] (spLaw K) := by
  have f_len := PySem.W.mg_none_of X G z_len
  have f_range := PySem.W.mg_none_of X G z_range
  have f_list := PySem.W.mg_none_of X G z_list
  have f_sum := PySem.W.mg_none_of X G z_sum
  have f_any := PySem.W.mg_none_of X G z_any
  have f_sorted := PySem.W.mg_none_of X G z_sorted
  have f_enumerate := PySem.W.mg_none_of X G z_enumerate
  have f_int := PySem.W.mg_none_of X G z_int
  have f_max := PySem.W.mg_none_of X G z_max
  have f_abs := PySem.W.mg_none_of X G z_abs
  have gG := PySem.W.mg_of X G gcd
  have gM := PySem.W.mg_of X G most
  obtain ⟨aN, eN, sN⟩ := nothing
  obtain ⟨aO, eO, sO⟩ := one
  have Cc : Cst K mg aN aO := ⟨PySem.W.mg_of X G eN, PySem.W.mg_of X G eO, sN, sO⟩
  have cfx : CF K CX := ⟨⟨pgx, hdx, pox, sax⟩, mkx, kcx⟩
  have cft : CF K CT := ⟨⟨pgt, hdt, pot, sat⟩, mkt, kct⟩
  have TX : XTxt K CX := ⟨cfx.cl, nx_path, nx_at, nx_chance, nx_is_open, nx_is_over, nx_many, nx_rows⟩
  have TT : TTxt K CT := ⟨cft.cl, nt_numbers, nt_at⟩
  have b_lowest : ∀ f fd, Fun K "lowest" "lowest" sLowest f fd → Binds K fd ["p", "q"] [] := fun f fd F => F.binds (ps := ["p", "q"]) fun _ _ _ _ _ _ us hl => match us, hl with | [_, _], _ => rfl
  have b_plus : ∀ f fd, Fun K "plus" "plus" sPlus f fd → Binds K fd ["a", "b"] [] := fun f fd F => F.binds (ps := ["a", "b"]) fun _ _ _ _ _ _ us hl => match us, hl with | [_, _], _ => rfl
  have b_times : ∀ f fd, Fun K "times" "times" sTimes f fd → Binds K fd ["a", "b"] [] := fun f fd F => F.binds (ps := ["a", "b"]) fun _ _ _ _ _ _ us hl => match us, hl with | [_, _], _ => rfl
  have b_less : ∀ f fd, Fun K "less" "less" sLess f fd → Binds K fd ["a", "b"] [] := fun f fd F => F.binds (ps := ["a", "b"]) fun _ _ _ _ _ _ us hl => match us, hl with | [_, _], _ => rfl
  have b_sumOf : ∀ f fd, Fun K "sum_of" "sum_of" sSumOf f fd → Binds K fd ["fractions"] [] := fun f fd F => F.binds (ps := ["fractions"]) fun _ _ _ _ _ _ us hl => match us, hl with | [_], _ => rfl
  have b_are : ∀ f fd, Fun K "are_chances" "are_chances" sAre f fd → Binds K fd ["fractions"] [] := fun f fd F => F.binds (ps := ["fractions"]) fun _ _ _ _ _ _ us hl => match us, hl with | [_], _ => rfl
  have b_lawFrom : ∀ f fd, Fun K "law_from" "law_from" sLawFrom f fd → Binds K fd ["rows"] [] := fun f fd F => F.binds (ps := ["rows"]) fun _ _ _ _ _ _ us hl => match us, hl with | [_], _ => rfl
  have b_numAt : ∀ f fd, Fun K "number_at" "number_at" sNumAt f fd → Binds K fd ["weights", "place"] [] := fun f fd F => F.binds (ps := ["weights", "place"]) fun _ _ _ _ _ _ us hl => match us, hl with | [_, _], _ => rfl
  have b_deck : ∀ f fd, Fun K "_law_deck" "_law_deck" sDeck f fd → Binds K fd ["_law_script"] [] := fun f fd F => F.binds (ps := ["_law_script"]) fun _ _ _ _ _ _ us hl => match us, hl with | [_], _ => rfl
  have b_draw : ∀ f fd, Fun K "_law_draw" "_law_draw" sDraw f fd → Binds K fd ["_law_deck_here", "_law_most"] [] := fun f fd F => F.binds (ps := ["_law_deck_here", "_law_most"]) fun _ _ _ _ _ _ us hl => match us, hl with | [_, _], _ => rfl
  have b_low : ∀ f fd, Fun K "_law_low" "_law_low" sLow f fd → Binds K fd ["_law_p", "_law_q"] [] := fun f fd F => F.binds (ps := ["_law_p", "_law_q"]) fun _ _ _ _ _ _ us hl => match us, hl with | [_, _], _ => rfl
  have b_weights : ∀ f fd, Fun K "_law_weights" "_law_weights" sWeights f fd → Binds K fd ["_law_deck_here", "_law_most"] [] := fun f fd F => F.binds (ps := ["_law_deck_here", "_law_most"]) fun _ _ _ _ _ _ us hl => match us, hl with | [_, _], _ => rfl
  have b_tree : ∀ f fd, Fun K "_law_tree" "_law_tree" sTree f fd → Binds K fd ["_law_deck_here", "_law_depth_here", "_law_form"] [] := fun f fd F => F.binds (ps := ["_law_deck_here", "_law_depth_here", "_law_form"]) fun _ _ _ _ _ _ us hl => match us, hl with | [_, _, _], _ => rfl
  have b_deed : ∀ f fd, Fun K "_law_deed" "_law_deed" sDeed f fd → Binds K fd ["_law_tree_here", "_law_dice", "_law_path"] [] := fun f fd F => F.binds (ps := ["_law_tree_here", "_law_dice", "_law_path"]) fun _ _ _ _ _ _ us hl => match us, hl with | [_, _, _], _ => rfl
  have b_depth : ∀ f fd, Fun K "_law_depth" "_law_depth" sDepth f fd → Binds K fd ["_law_tree_here"] [] := fun f fd F => F.binds (ps := ["_law_tree_here"]) fun _ _ _ _ _ _ us hl => match us, hl with | [_], _ => rfl
  have b_common : ∀ f fd, Fun K "_law_common" "_law_common" sCommon f fd → Binds K fd ["_law_tree_here"] [] := fun f fd F => F.binds (ps := ["_law_tree_here"]) fun _ _ _ _ _ _ us hl => match us, hl with | [_], _ => rfl
  have b_shared : ∀ f fd, Fun K "_law_shared" "_law_shared" sShared f fd → Binds K fd ["_law_first", "_law_second"] [] := fun f fd F => F.binds (ps := ["_law_first", "_law_second"]) fun _ _ _ _ _ _ us hl => match us, hl with | [_, _], _ => rfl
  have b_lists : ∀ f fd, Fun K "_law_lists" "_law_lists" sLists f fd → Binds K fd ["_law_side", "_law_depth_here"] [] := fun f fd F => F.binds (ps := ["_law_side", "_law_depth_here"]) fun _ _ _ _ _ _ us hl => match us, hl with | [_, _], _ => rfl
  have b_power : ∀ f fd, Fun K "_law_power" "_law_power" sPower f fd → Binds K fd ["_law_side", "_law_depth_here"] [] := fun f fd F => F.binds (ps := ["_law_side", "_law_depth_here"]) fun _ _ _ _ _ _ us hl => match us, hl with | [_, _], _ => rfl
  have b_law : ∀ f fd, Fun K "law" "law" sLaw f fd → Binds K fd ["_law_script"] [] := fun f fd F => F.binds (ps := ["_law_script"]) fun _ _ _ _ _ _ us hl => match us, hl with | [_], _ => rfl
  have b_xInit : ∀ f fd, Fun K "__init__" "Explorer.__init__" sXInit f fd → Binds K fd ["self"] [] := fun f fd F => F.binds (ps := ["self"]) fun _ _ _ _ _ _ us hl => match us, hl with | [_], _ => rfl
  have b_xAdvance : ∀ f fd, Fun K "advance" "Explorer.advance" sXAdvance f fd → Binds K fd ["self"] [] := fun f fd F => F.binds (ps := ["self"]) fun _ _ _ _ _ _ us hl => match us, hl with | [_], _ => rfl
  have b_xBegin : ∀ f fd, Fun K "begin" "Explorer.begin" sXBegin f fd → Binds K fd ["self"] [] := fun f fd F => F.binds (ps := ["self"]) fun _ _ _ _ _ _ us hl => match us, hl with | [_], _ => rfl
  have b_xPick : ∀ f fd, Fun K "pick" "Explorer.pick" sXPick f fd → Binds K fd ["self", "weights"] [] := fun f fd F => F.binds (ps := ["self", "weights"]) fun _ _ _ _ _ _ us hl => match us, hl with | [_, _], _ => rfl
  have b_xEnd : ∀ f fd, Fun K "end" "Explorer.end" sXEnd f fd → Binds K fd ["self", "outcome"] [] := fun f fd F => F.binds (ps := ["self", "outcome"]) fun _ _ _ _ _ _ us hl => match us, hl with | [_, _], _ => rfl
  have b_xGath : ∀ f fd, Fun K "gathered" "Explorer.gathered" sXGathered f fd → Binds K fd ["self"] [] := fun f fd F => F.binds (ps := ["self"]) fun _ _ _ _ _ _ us hl => match us, hl with | [_], _ => rfl
  have b_tInit : ∀ f fd, Fun K "__init__" "Tape.__init__" sTInit f fd → Binds K fd ["self", "numbers"] [] := fun f fd F => F.binds (ps := ["self", "numbers"]) fun _ _ _ _ _ _ us hl => match us, hl with | [_, _], _ => rfl
  have b_tPick : ∀ f fd, Fun K "pick" "Tape.pick" sTPick f fd → Binds K fd ["self", "weights"] [] := fun f fd F => F.binds (ps := ["self", "weights"]) fun _ _ _ _ _ _ us hl => match us, hl with | [_, _], _ => rfl
  obtain ⟨f0, fd, ea, F0⟩ := g_law
  have e := hfa.symm.trans (PySem.W.mg_of X G ea)
  cases e
  refine ⟨fd, fun s v => ?_, fun base _ _ => ?_⟩
  · obtain ⟨oc, od, kV, doc, pm, an, cdv, ct, osl, rfl, lk, hcd⟩ := F0.ex
    exact .of_eq rfl
  have h_lowest : Has P w K mg base "lowest" 1 ["p", "q"] spLowest := has_of X G g_lowest b_lowest fun f fd F m b => ok_lowest F gG
  have h_plus : Has P w K mg base "plus" 2 ["a", "b"] (spPlus K) := has_of X G g_plus b_plus fun f fd F m b => ok_plus F h_lowest
  have h_times : Has P w K mg base "times" 2 ["a", "b"] (spTimes K) := has_of X G g_times b_times fun f fd F m b => ok_times F h_lowest
  have h_less : Has P w K mg base "less" 1 ["a", "b"] (spLess K) := has_of X G g_less b_less fun f fd F m b => ok_less F
  have h_sumOf : Has P w K mg base "sum_of" 3 ["fractions"] (spSumOf K) := has_of X G g_sumOf b_sumOf fun f fd F m b => ok_sumOf F h_plus Cc
  have h_are : Has P w K mg base "are_chances" 4 ["fractions"] (spAre K) := has_of X G g_are b_are fun f fd F m b => ok_are F h_less h_sumOf Cc f_any
  have h_lawFrom : Has P w K mg base "law_from" 5 ["rows"] (spLawFrom K) := has_of X G g_lawFrom b_lawFrom fun f fd F m b => ok_lawFrom F h_are h_plus Cc f_sorted
  have h_xInit : HasI P w K mg base CX 1 ["self"] (spXInit K CX) := hasI_of cfx m_xInit b_xInit fun f fd F => ok_xInit F TX Cc
  have h_xAdvance : HasM P w K mg base CX "advance" 1 ["self"] (spXAdvance K CX) := hasM_of m_xAdvance b_xAdvance fun f fd F => ok_xAdvance F TX f_len f_range
  have h_xBegin : HasM P w K mg base CX "begin" 2 ["self"] (spXBegin K CX) := hasM_of m_xBegin b_xBegin fun f fd F => ok_xBegin F TX Cc h_xAdvance f_list gM
  have h_xPick : HasM P w K mg base CX "pick" 3 ["self", "weights"] (spXPick K CX) := hasM_of m_xPick b_xPick fun f fd F => ok_xPick F TX h_lowest h_times f_len f_range f_list f_sum
  have h_xEnd : HasM P w K mg base CX "end" 1 ["self", "outcome"] (spXEnd K CX) := hasM_of m_xEnd b_xEnd fun f fd F => ok_xEnd F TX
  have h_xGath : HasM P w K mg base CX "gathered" 6 ["self"] (spXGathered K CX) := hasM_of m_xGath b_xGath fun f fd F => ok_xGathered F TX h_lawFrom
  have h_numAt : Has P w K mg base "number_at" 1 ["weights", "place"] (spNumAt K) := has_of X G g_numAt b_numAt fun f fd F m b => ok_numAt F f_enumerate f_len
  have h_tInit : HasI P w K mg base CT 1 ["self", "numbers"] (spTInit K CT) := hasI_of cft m_tInit b_tInit fun f fd F => ok_tInit F TT f_list
  have h_tPick : HasM P w K mg base CT "pick" 2 ["self", "weights"] (spTPick K CT) := hasM_of m_tPick b_tPick fun f fd F => ok_tPick F TT h_numAt f_len f_int f_sum
  have h_deck : Has P w K mg base "_law_deck" 1 ["_law_script"] (spDeck K) := has_of X G g_deck b_deck fun f fd F m b => ok_deck F f_list
  have h_draw : Has P w K mg base "_law_draw" 1 ["_law_deck_here", "_law_most"] spDraw := has_of X G g_draw b_draw fun f fd F m b => ok_draw F f_int f_len
  have h_low : Has P w K mg base "_law_low" 1 ["_law_p", "_law_q"] spLow := has_of X G g_low b_low fun f fd F m b => ok_low F f_range f_int f_abs
  have h_shared : Has P w K mg base "_law_shared" 1 ["_law_first", "_law_second"] spShared := has_of X G g_shared b_shared fun f fd F m b => ok_shared F f_range f_int
  have h_power : Has P w K mg base "_law_power" 1 ["_law_side", "_law_depth_here"] spPower := has_of X G g_power b_power fun f fd F m b => ok_power F f_range
  have h_weights : Has P w K mg base "_law_weights" 2 ["_law_deck_here", "_law_most"] spWeights := has_of X G g_weights b_weights fun f fd F m b => ok_weights F h_draw f_range f_sum f_len
  have h_tree : Has P w K mg base "_law_tree" 6 ["_law_deck_here", "_law_depth_here", "_law_form"] (spTree 4) := has_of X G g_tree b_tree fun f fd F m b => ok_trees F h_draw h_weights b m 4
  have h_depth : Has P w K mg base "_law_depth" 4 ["_law_tree_here"] (spDepth 4) := has_of X G g_depth b_depth fun f fd F m b => ok_depths F b m f_max 4
  have h_common : Has P w K mg base "_law_common" 5 ["_law_tree_here"] (spCommon 4) := has_of X G g_common b_common fun f fd F m b => ok_commons F h_shared b m f_max f_abs f_sum 4
  have h_lists : Has P w K mg base "_law_lists" 1 ["_law_side", "_law_depth_here"] spLists := has_of X G g_lists b_lists fun f fd F m b => ok_lists F f_range
  have h_deedX : Has P w K mg base "_law_deed" 4 ["_law_tree_here", "_law_dice", "_law_path"] (spDeedX CX K) := has_of X G g_deed b_deed fun f fd F m b => ok_deedX F cfx.cl h_xPick f_range f_list
  have h_deedT : Has P w K mg base "_law_deed" 3 ["_law_tree_here", "_law_dice", "_law_path"] (spDeedT CT) := has_of X G g_deed b_deed fun f fd F m b => ok_deedT F cft.cl h_tPick f_range f_list
  exact ok_law F0 ⟨h_deck.up (by decide), h_draw.up (by decide), h_tree, h_common.up (by decide), h_depth.up (by decide), h_power.up (by decide), h_lists.up (by decide), h_low.up (by decide), h_deedX.up (by decide), h_deedT.up (by decide),
    h_xInit.up (by decide), h_xBegin.up (by decide), h_xEnd.up (by decide), h_xGath, h_tInit.up (by decide), cfx.cl, PySem.W.mg_of X G cx, PySem.W.mg_of X G ct, f_int, f_range, f_sorted, f_list, f_len⟩
end
theorem walk {l : PySem.W.OpenLaw} {q : Program} {loose : List Str} {XP : (Str → Option Value) → Heap → Prop} {YP : World → Heap → Prop} {d : DefRec} {K : Params → PySem.W.Frag} (hn : l.most = some 63) (hdf : d.params.defaults = [])
    (hY : ∀ (w : World) (h : Heap), YP w h → (K w.params).In h)
    (F : ∀ (w : World) (mg : Str → Option Value) (fa : Addr) (h : Heap), (K w.params).In h → h.Ns mainGlobals mg → mg d.name = some (.ref fa) →
      ∃ fd : FuncData, (∀ (s : Shared) (u : Value), BindsTo s fd ⟨[u], []⟩ [("_law_script", u)]) ∧ ∀ base : Heap, (K w.params).In base → base.Ns mainGlobals mg → FnOk l.prog w (K w.params) mg base CX0 7 fa fd ["_law_script"] (spLaw (K w.params))) :
    PySem.W.WalkO q loose XP YP l.row.toRowW d [] (fun f vs => PySem.call f vs) :=
  L2.walk_of (n := 63) (k := 7) (x := "_law_script") (CX := fun _ => CX0) (sp := fun w => spLaw (K w.params)) hn (by decide) hdf ⟨rfl, by decide, by decide⟩ hY F (fun _ _ a ns hl _ hS => ⟨a, ns, rfl, hS, hl, fun _ => rfl⟩) fun _ _ _ _ _ z => z
end Fd
open PySem PySem.W PyProof.Rows in
set_option maxRecDepth 100000 in
set_option maxHeartbeats 0 in
theorem PySem.Challenge.cw_samphire_k13_whole_fair_dice_holds : PySem.Challenge.rw_samphire_k13_whole_fair_dice.Holds := by
  w_on; o_law; k_head; (case hw => w_witness2)
  k_fill
  refine Fd.walk (l := PySem.Challenge.rw_samphire_k13_whole_fair_dice) rfl rfl (fun w h Y => PySem.W.kIn_of Y) ?F
  case F =>
    intro w mg fa h KX G hmg
    refine' Fd.all_end KX G hmg ?cx ?ct ?pgx ?hdx ?pox ?sax ?mkx ?kcx ?pgt ?hdt ?pot ?sat ?mkt ?kct ?nx_path ?nx_at ?nx_chance ?nx_is_open ?nx_is_over ?nx_many ?nx_rows ?nt_numbers ?nt_at ?gcd ?most ?z_len ?z_range ?z_list ?z_sum ?z_any ?z_sorted ?z_enumerate ?z_int ?z_max ?z_abs ?nothing ?one ?g_lowest ?g_plus ?g_times ?g_less ?g_sumOf ?g_are ?g_lawFrom ?g_numAt ?g_deck ?g_draw ?g_low ?g_weights ?g_tree ?g_deed ?g_depth ?g_common ?g_shared ?g_lists ?g_power ?g_law ?m_xInit ?m_xAdvance ?m_xBegin ?m_xPick ?m_xEnd ?m_xGath ?m_tInit ?m_tPick
    (case cx => k_is)
    (case ct => k_is)
    (case pgx => k_is)
    (case hdx => k_is)
    (case pox => k_is)
    (case sax => k_is)
    (case mkx => k_is)
    (case kcx => k_is)
    (case pgt => k_is)
    (case hdt => k_is)
    (case pot => k_is)
    (case sat => k_is)
    (case mkt => k_is)
    (case kct => k_is)
    (case nx_path => k_is)
    (case nx_at => k_is)
    (case nx_chance => k_is)
    (case nx_is_open => k_is)
    (case nx_is_over => k_is)
    (case nx_many => k_is)
    (case nx_rows => k_is)
    (case nt_numbers => k_is)
    (case nt_at => k_is)
    (case gcd => k_is)
    (case most => k_is)
    (case z_len => k_is)
    (case z_range => k_is)
    (case z_list => k_is)
    (case z_sum => k_is)
    (case z_any => k_is)
    (case z_sorted => k_is)
    (case z_enumerate => k_is)
    (case z_int => k_is)
    (case z_max => k_is)
    (case z_abs => k_is)
    (case nothing => (refine' Fd.tf_mk ?a ?l; (case a => k_is); (case l => k_is)))
    (case one => (refine' Fd.tf_mk ?a ?l; (case a => k_is); (case l => k_is)))
    (case g_lowest => (refine' Fd.gf_mk ?a ?l ?c ?k; (case a => k_is); (case l => k_is); (case c => k_is); (case k => k_is)))
    (case g_plus => (refine' Fd.gf_mk ?a ?l ?c ?k; (case a => k_is); (case l => k_is); (case c => k_is); (case k => k_is)))
    (case g_times => (refine' Fd.gf_mk ?a ?l ?c ?k; (case a => k_is); (case l => k_is); (case c => k_is); (case k => k_is)))
    (case g_less => (refine' Fd.gf_mk ?a ?l ?c ?k; (case a => k_is); (case l => k_is); (case c => k_is); (case k => k_is)))
    (case g_sumOf => (refine' Fd.gf_mk ?a ?l ?c ?k; (case a => k_is); (case l => k_is); (case c => k_is); (case k => k_is)))
    (case g_are => (refine' Fd.gf_mk ?a ?l ?c ?k; (case a => k_is); (case l => k_is); (case c => k_is); (case k => k_is)))
    (case g_lawFrom => (refine' Fd.gf_mk ?a ?l ?c ?k; (case a => k_is); (case l => k_is); (case c => k_is); (case k => k_is)))
    (case g_numAt => (refine' Fd.gf_mk ?a ?l ?c ?k; (case a => k_is); (case l => k_is); (case c => k_is); (case k => k_is)))
    (case g_deck => (refine' Fd.gf_mk ?a ?l ?c ?k; (case a => k_is); (case l => k_is); (case c => k_is); (case k => k_is)))
    (case g_draw => (refine' Fd.gf_mk ?a ?l ?c ?k; (case a => k_is); (case l => k_is); (case c => k_is); (case k => k_is)))
    (case g_low => (refine' Fd.gf_mk ?a ?l ?c ?k; (case a => k_is); (case l => k_is); (case c => k_is); (case k => k_is)))
    (case g_weights => (refine' Fd.gf_mk ?a ?l ?c ?k; (case a => k_is); (case l => k_is); (case c => k_is); (case k => k_is)))
    (case g_tree => (refine' Fd.gf_mk ?a ?l ?c ?k; (case a => k_is); (case l => k_is); (case c => k_is); (case k => k_is)))
    (case g_deed => (refine' Fd.gf_mk ?a ?l ?c ?k; (case a => k_is); (case l => k_is); (case c => k_is); (case k => k_is)))
    (case g_depth => (refine' Fd.gf_mk ?a ?l ?c ?k; (case a => k_is); (case l => k_is); (case c => k_is); (case k => k_is)))
    (case g_common => (refine' Fd.gf_mk ?a ?l ?c ?k; (case a => k_is); (case l => k_is); (case c => k_is); (case k => k_is)))
    (case g_shared => (refine' Fd.gf_mk ?a ?l ?c ?k; (case a => k_is); (case l => k_is); (case c => k_is); (case k => k_is)))
    (case g_lists => (refine' Fd.gf_mk ?a ?l ?c ?k; (case a => k_is); (case l => k_is); (case c => k_is); (case k => k_is)))
    (case g_power => (refine' Fd.gf_mk ?a ?l ?c ?k; (case a => k_is); (case l => k_is); (case c => k_is); (case k => k_is)))
    (case g_law => (refine' Fd.gf_mk ?a ?l ?c ?k; (case a => k_is); (case l => k_is); (case c => k_is); (case k => k_is)))
    (case m_xInit => (refine' Fd.mf_mk ?a ?i ?l ?c ?k; (case a => k_is); (case i => k_is); (case l => k_is); (case c => k_is); (case k => k_is)))
    (case m_xAdvance => (refine' Fd.mf_mk ?a ?i ?l ?c ?k; (case a => k_is); (case i => k_is); (case l => k_is); (case c => k_is); (case k => k_is)))
    (case m_xBegin => (refine' Fd.mf_mk ?a ?i ?l ?c ?k; (case a => k_is); (case i => k_is); (case l => k_is); (case c => k_is); (case k => k_is)))
    (case m_xPick => (refine' Fd.mf_mk ?a ?i ?l ?c ?k; (case a => k_is); (case i => k_is); (case l => k_is); (case c => k_is); (case k => k_is)))
    (case m_xEnd => (refine' Fd.mf_mk ?a ?i ?l ?c ?k; (case a => k_is); (case i => k_is); (case l => k_is); (case c => k_is); (case k => k_is)))
    (case m_xGath => (refine' Fd.mf_mk ?a ?i ?l ?c ?k; (case a => k_is); (case i => k_is); (case l => k_is); (case c => k_is); (case k => k_is)))
    (case m_tInit => (refine' Fd.mf_mk ?a ?i ?l ?c ?k; (case a => k_is); (case i => k_is); (case l => k_is); (case c => k_is); (case k => k_is)))
    (case m_tPick => (refine' Fd.mf_mk ?a ?i ?l ?c ?k; (case a => k_is); (case i => k_is); (case l => k_is); (case c => k_is); (case k => k_is)))
#print axioms PySem.Challenge.cw_samphire_k13_whole_fair_dice_holds
