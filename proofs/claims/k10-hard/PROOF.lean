import PyProof.Rows.All
import Wide.All
import OpenK.AllK
import Wide.FinOn
import HandS.ForMost
import HandS.ForExc
import HandS.Evl
import HandS.IsInst
import HandS.WideBits
import HandS.EndBits
import HandS.SortInts
import HandS.Style
import HandS.Walk
import HandS.More
import HandS.CallRecv
import KE.RegKIsAll
import KE.SortData
import PySem.Challenge.RW_sortless_k10_whole_hard
set_option Elab.async false
set_option linter.all false
set_option maxRecDepth 100000
set_option maxHeartbeats 4000000
namespace Sl
/-! ### the mathematics: powers, figures, sorting, a step -/
/-- a power -/
def pw (b : Int) : Nat → Int
  | 0 => 1
  | k + 1 => pw b k * b
/-- the figures, the last one first -/
def figs (b : Int) (L : Nat) (n : Int) : List Int := (List.range L).map fun i => (n / pw b i) % b
/-- the number that figures write -/
def wr (b : Int) (ds : List Int) : Int := ds.foldl (fun a d => a * b + d) 0
/-- sorted -/
def srt (l : List Int) : List Int := l.mergeSort (fun a b => decide (a ≤ b))
def stepM (b : Int) (L : Nat) (n : Int) : Int := wr b (srt (figs b L n)).reverse - wr b (srt (figs b L n))
/-- all are figures of the base -/
def Digs (b : Int) (l : List Int) : Prop := ∀ d ∈ l, 0 ≤ d ∧ d < b

/-- a number of a base and a length -/
def Dom (b l n : Int) : Prop := (2 ≤ b ∧ b ≤ 12 ∧ 1 ≤ l ∧ l ≤ 8) ∧ 0 ≤ n ∧ n < pw b l.toNat
theorem pw_succ' (b : Int) : ∀ k, pw b (k + 1) = b * pw b k
  | 0 => by show 1 * b = b * 1; omega
  | k + 1 => by
    show pw b (k + 1) * b = b * (pw b k * b)
    rw [pw_succ' b k, Int.mul_assoc]
theorem pw_pos {b : Int} (hb : 0 < b) : ∀ k, 0 < pw b k
  | 0 => by show (0 : Int) < 1; decide
  | k + 1 => Int.mul_pos (pw_pos hb k) hb
theorem pw_mono {b c : Int} (h0 : 0 ≤ b) (h : b ≤ c) : ∀ k, pw b k ≤ pw c k
  | 0 => Int.le_refl _
  | k + 1 => Int.mul_le_mul (pw_mono h0 h k) h h0 (by
    have : ∀ j, 0 ≤ pw c j := fun j => by
      induction j with
      | zero => show (0 : Int) ≤ 1; decide
      | succ j ih => exact Int.mul_nonneg ih (Int.le_trans h0 h)
    exact this k)
theorem pw_up {b : Int} (hb : 1 ≤ b) {j k : Nat} (h : j ≤ k) : pw b j ≤ pw b k := by
  induction k with
  | zero =>
    have : j = 0 := by omega
    subst this
    exact Int.le_refl _
  | succ k ih =>
    by_cases e : j = k + 1
    · subst e
      exact Int.le_refl _
    · have h1 := ih (by omega)
      have h2 : pw b k * 1 ≤ pw b k * b := Int.mul_le_mul_of_nonneg_left hb (Int.le_of_lt (pw_pos (by omega) k))
      rw [Int.mul_one] at h2
      exact Int.le_trans h1 h2
theorem pw_le {b : Int} (h0 : 2 ≤ b) (h : b ≤ 12) {k : Nat} (hk : k ≤ 8) : pw b k ≤ 429981696 := by
  have h1 := pw_up (b := b) (by omega) hk
  have h2 := pw_mono (b := b) (c := 12) (by omega) h 8
  have h3 : pw 12 8 = 429981696 := by decide
  omega
theorem pw_add (b : Int) (j : Nat) : ∀ k, pw b (j + k) = pw b j * pw b k
  | 0 => by show pw b j = pw b j * 1; omega
  | k + 1 => by
    show pw b (j + k) * b = pw b j * (pw b k * b)
    rw [pw_add b j k, Int.mul_assoc]
theorem div_pw {b : Int} (hb : 0 < b) (n : Int) (i : Nat) : n / pw b (i + 1) = n / pw b i / b := by
  show n / (pw b i * b) = n / pw b i / b
  rw [Int.ediv_ediv_of_nonneg (Int.le_of_lt (pw_pos hb i))]
theorem figs_length (b : Int) (L : Nat) (n : Int) : (figs b L n).length = L := by simp [figs]
theorem figs_succ (b : Int) (L : Nat) (n : Int) : figs b (L + 1) n = figs b L n ++ [(n / pw b L) % b] := by
  simp [figs, List.range_succ]
theorem figs_cons {b : Int} (hb : 0 < b) (L : Nat) (n : Int) : figs b (L + 1) n = (n % b) :: figs b L (n / b) := by
  induction L with
  | zero =>
    show [(n / 1) % b] = [n % b]
    rw [Int.ediv_one]
  | succ L ih =>
    rw [figs_succ, ih, figs_succ b L (n / b)]
    have e : n / b / pw b L = n / pw b (L + 1) := by
      rw [pw_succ', Int.ediv_ediv_of_nonneg (Int.le_of_lt hb)]
    rw [e]
    rfl
theorem figs_digs {b : Int} (hb : 0 < b) (L : Nat) (n : Int) : Digs b (figs b L n) := by
  intro d hd
  simp only [figs, List.mem_map] at hd
  obtain ⟨i, _, rfl⟩ := hd
  exact ⟨Int.emod_nonneg _ (by omega), Int.emod_lt_of_pos _ hb⟩
theorem wr_append (b : Int) (l : List Int) (d : Int) : wr b (l ++ [d]) = wr b l * b + d := by
  simp [wr, List.foldl_append]
theorem wr_cons (b : Int) (d : Int) (l : List Int) : wr b (d :: l) = d * pw b l.length + wr b l := by
  have key : ∀ (l : List Int) (a : Int), l.foldl (fun a d => a * b + d) a = a * pw b l.length + wr b l := by
    intro l
    induction l with
    | nil => intro a; show a = a * 1 + 0; omega
    | cons x l ih =>
      intro a
      show l.foldl (fun a d => a * b + d) (a * b + x) = a * pw b (l.length + 1) + l.foldl (fun a d => a * b + d) (0 * b + x)
      rw [ih, ih (0 * b + x), pw_succ', Int.add_mul, Int.zero_mul, Int.zero_add, Int.mul_assoc]
      omega
  show l.foldl (fun a d => a * b + d) (0 * b + d) = _
  rw [key, Int.zero_mul, Int.zero_add]
theorem Digs.cons {b d : Int} {l : List Int} (h : Digs b (d :: l)) : (0 ≤ d ∧ d < b) ∧ Digs b l := ⟨h d (by simp), fun x hx => h x (by simp [hx])⟩
theorem Digs.perm {b : Int} {l k : List Int} (h : Digs b l) (p : k.Perm l) : Digs b k := fun d hd => h d (p.mem_iff.mp hd)
theorem wr_bound {b : Int} (hb : 0 < b) : ∀ {l : List Int}, Digs b l → 0 ≤ wr b l ∧ wr b l < pw b l.length
  | [], _ => ⟨Int.le_refl _, by show (0 : Int) < 1; decide⟩
  | d :: l, h => by
    obtain ⟨⟨h1, h2⟩, h3⟩ := h.cons
    obtain ⟨h4, h5⟩ := wr_bound hb h3
    have hp := pw_pos hb l.length
    rw [wr_cons]
    have h6 : 0 ≤ d * pw b l.length := Int.mul_nonneg h1 (Int.le_of_lt hp)
    have h7 : d * pw b l.length ≤ (b - 1) * pw b l.length := Int.mul_le_mul_of_nonneg_right (by omega) (Int.le_of_lt hp)
    rw [Int.sub_mul, Int.one_mul] at h7
    refine ⟨by omega, ?_⟩
    show _ < pw b l.length * b
    rw [Int.mul_comm (pw b l.length) b]
    omega
/-- a number by its figures -/
theorem wr_figs {b : Int} (hb : 0 < b) : ∀ (L : Nat) (n : Int), 0 ≤ n → n < pw b L → wr b (figs b L n).reverse = n
  | 0, n, h0, h1 => by
    have h1' : n < 1 := h1
    show (0 : Int) = n
    omega
  | L + 1, n, h0, h1 => by
    rw [figs_cons hb, List.reverse_cons, wr_append]
    have hq : n / b < pw b L := by
      refine Int.ediv_lt_of_lt_mul hb ?_
      exact h1
    rw [wr_figs hb L (n / b) (Int.ediv_nonneg h0 (Int.le_of_lt hb)) hq]
    have e := Int.mul_ediv_add_emod n b
    rw [Int.mul_comm] at e
    exact e
theorem figs_wr {b : Int} (hb : 0 < b) : ∀ {l : List Int}, Digs b l → figs b l.length (wr b l.reverse) = l
  | [], _ => rfl
  | d :: l, h => by
    obtain ⟨⟨h1, h2⟩, h3⟩ := h.cons
    rw [List.reverse_cons, wr_append]
    show figs b (l.length + 1) _ = _
    rw [figs_cons hb]
    have e1 : (wr b l.reverse * b + d) % b = d := by
      rw [Int.add_comm, Int.add_mul_emod_self_right, Int.emod_eq_of_lt h1 h2]
    have e2 : (wr b l.reverse * b + d) / b = wr b l.reverse := by
      rw [Int.add_comm, Int.add_mul_ediv_right _ _ (by omega), Int.ediv_eq_zero_of_lt h1 h2]
      omega
    rw [e1, e2, figs_wr hb h3]
/-! sorting -/
theorem srt_perm (l : List Int) : (srt l).Perm l := List.mergeSort_perm l _
theorem srt_sorted (l : List Int) : (srt l).Pairwise (· ≤ ·) := by
  have h := List.pairwise_mergeSort (le := fun a b : Int => decide (a ≤ b)) (fun a b c h1 h2 => by
    have h1 := of_decide_eq_true h1
    have h2 := of_decide_eq_true h2
    exact decide_eq_true (Int.le_trans h1 h2)) (fun a b => by
    rcases Int.le_total a b with h | h
    · simp [h]
    · simp [h]) l
  exact h.imp fun h => of_decide_eq_true h
theorem sort_one {l k : List Int} (h1 : l.Pairwise (· ≤ ·)) (h2 : k.Pairwise (· ≤ ·)) (p : l.Perm k) : l = k :=
  List.Perm.eq_of_pairwise (fun _ _ _ _ a b => Int.le_antisymm a b) h1 h2 p
theorem srt_of {l k : List Int} (p : k.Perm l) (h : k.Pairwise (· ≤ ·)) : k = srt l := sort_one h (srt_sorted l) (p.trans (srt_perm l).symm)
theorem srt_congr {l k : List Int} (p : k.Perm l) : srt k = srt l := srt_of ((srt_perm k).trans p) (srt_sorted k)
theorem srt_length (l : List Int) : (srt l).length = l.length := (srt_perm l).length_eq
/-! how much a list written from its end exceeds it -/
theorem ends_ind {P : List Int → Prop} (h0 : P []) (h1 : ∀ x, P [x]) (h2 : ∀ x m y, P m → P (x :: (m ++ [y]))) (l : List Int) : P l := by
  have key : ∀ n (l : List Int), l.length ≤ n → P l := by
    intro n
    induction n with
    | zero =>
      intro l h
      have : l = [] := List.length_eq_zero_iff.mp (by omega)
      subst this
      exact h0
    | succ n ih =>
      intro l h
      cases l with
      | nil => exact h0
      | cons x r =>
        rcases List.eq_nil_or_concat r with e | ⟨m, y, e⟩
        · subst e
          exact h1 x
        · subst e
          rw [List.concat_eq_append] at *
          refine h2 x m y (ih m ?_)
          simp at h
          omega
  exact key l.length l (Nat.le_refl _)
theorem wr_peel (b x y : Int) (m : List Int) : wr b (x :: (m ++ [y])) = x * pw b (m.length + 1) + wr b m * b + y := by
  rw [wr_cons, wr_append, List.length_append]
  show x * pw b (m.length + 1) + (wr b m * b + y) = _
  omega
theorem rev_peel (x y : Int) (m : List Int) : (x :: (m ++ [y])).reverse = y :: (m.reverse ++ [x]) := by simp
theorem diff_peel (b x y : Int) (m : List Int) : wr b (x :: (m ++ [y])).reverse - wr b (x :: (m ++ [y])) = (y - x) * (pw b (m.length + 1) - 1) + b * (wr b m.reverse - wr b m) := by
  rw [rev_peel, wr_peel, wr_peel, List.length_reverse, Int.sub_mul, Int.mul_sub, Int.mul_sub, Int.mul_sub, Int.mul_one, Int.mul_one, Int.mul_comm b, Int.mul_comm b]
  omega
theorem down_ge {b : Int} (hb : 1 ≤ b) (l : List Int) : l.Pairwise (· ≤ ·) → 0 ≤ wr b l.reverse - wr b l := by
  induction l using ends_ind with
  | h0 => intro _; show (0 : Int) ≤ wr b [] - wr b []; omega
  | h1 x => intro _; show (0 : Int) ≤ wr b [x] - wr b [x]; omega
  | h2 x m y ih =>
    intro h
    obtain ⟨h1, h2⟩ := List.pairwise_cons.mp h
    have h3 := (List.pairwise_append.mp h2).1
    have hxy : x ≤ y := h1 y (by simp)
    rw [diff_peel]
    have a1 : 0 ≤ (y - x) * (pw b (m.length + 1) - 1) := Int.mul_nonneg (by omega) (by
      have := pw_pos (b := b) (by omega) (m.length + 1)
      omega)
    have a2 : 0 ≤ b * (wr b m.reverse - wr b m) := Int.mul_nonneg (by omega) (ih h3)
    omega
theorem step_bound {b : Int} (hb : 2 ≤ b) (L : Nat) (n : Int) : 0 ≤ stepM b L n ∧ stepM b L n < pw b L := by
  have h1 := down_ge (b := b) (by omega) (srt (figs b L n)) (srt_sorted _)
  have d0 : Digs b (srt (figs b L n)) := (figs_digs (by omega) L n).perm (srt_perm _)
  have d1 : Digs b (srt (figs b L n)).reverse := d0.perm (List.reverse_perm _)
  have w0 := wr_bound (b := b) (by omega) d0
  have w1 := wr_bound (b := b) (by omega) d1
  rw [List.length_reverse, srt_length, figs_length] at w1
  unfold stepM
  omega
/-! by how often each figure is there -/
/-- the figures from the least on, by how often each is there -/
def lup (b : Nat) (l : List Int) : List Int := (List.range b).flatMap fun (f : Nat) => List.replicate (l.count (f : Int)) (f : Int)
/-- from the greatest on -/
def ldn (b : Nat) (l : List Int) : List Int := (List.range b).flatMap fun (f : Nat) => List.replicate (l.count ((b : Int) - 1 - (f : Int))) ((b : Int) - 1 - (f : Int))
theorem sum_ite (d : Nat) (g : Nat → Nat) : ∀ n, ((List.range n).map fun f => if f = d then g f else 0).sum = if d < n then g d else 0
  | 0 => rfl
  | n + 1 => by
    rw [List.range_succ, List.map_append, List.sum_append, sum_ite d g n]
    simp only [List.map_cons, List.map_nil, List.sum_cons, List.sum_nil]
    split <;> split <;> split <;> first | omega | (subst_vars; omega)
theorem lup_count {b : Nat} {l : List Int} (h : Digs b l) (d : Int) : (lup b l).count d = l.count d := by
  unfold lup
  rw [List.count_flatMap]
  by_cases hd : 0 ≤ d ∧ d < (b : Int)
  · obtain ⟨k, rfl⟩ := Int.eq_ofNat_of_zero_le hd.1
    have e : (List.map (List.count (k : Int) ∘ fun f : Nat => List.replicate (List.count (f : Int) l) (f : Int)) (List.range b)) = (List.range b).map fun f => if f = k then l.count (f : Int) else 0 := by
      refine List.map_congr_left fun f _ => ?_
      show List.count (k : Int) (List.replicate (List.count (f : Int) l) (f : Int)) = _
      rw [List.count_replicate]
      by_cases e : f = k
      · subst e; simp
      · have : ¬ ((f : Int) == (k : Int)) = true := by
          simp only [beq_iff_eq]
          omega
        rw [if_neg this, if_neg e]
    rw [e, sum_ite, if_pos (by omega)]
  · have e1 : l.count d = 0 := List.count_eq_zero.mpr fun hm => hd (h d hm)
    rw [e1]
    have e : (List.map (List.count d ∘ fun f : Nat => List.replicate (List.count (f : Int) l) (f : Int)) (List.range b)) = (List.range b).map fun _ => 0 := by
      refine List.map_congr_left fun f hf => ?_
      show List.count d (List.replicate (List.count (f : Int) l) (f : Int)) = 0
      rw [List.count_replicate]
      have hfb := List.mem_range.mp hf
      have : ¬ ((f : Int) == d) = true := by
        simp only [beq_iff_eq]
        omega
      rw [if_neg this]
    rw [e]
    clear e h
    have z : ∀ n, ((List.range n).map fun _ => 0).sum = 0 := fun n => by
      induction n with
      | zero => rfl
      | succ n ih => rw [List.range_succ, List.map_append, List.sum_append, ih] <;> rfl
    exact z b
theorem lup_srt {b : Nat} {l : List Int} (h : Digs b l) : lup b l = srt l := by
  refine srt_of (List.perm_iff_count.mpr fun d => lup_count h d) ?_
  unfold lup
  rw [List.pairwise_flatMap]
  refine ⟨fun f _ => List.pairwise_replicate.mpr (.inr (Int.le_refl _)), ?_⟩
  refine List.Pairwise.imp (R := (· < ·)) ?_ List.pairwise_lt_range
  intro f g hfg x hx y hy
  rw [(List.mem_replicate.mp hx).2, (List.mem_replicate.mp hy).2]
  omega
theorem flat_congr {α β : Type} {f g : α → List β} : ∀ {l : List α}, (∀ x ∈ l, f x = g x) → l.flatMap f = l.flatMap g
  | [], _ => rfl
  | a :: l, h => by
    rw [List.flatMap_cons, List.flatMap_cons, h a (by simp), flat_congr fun x hx => h x (by simp [hx])]
theorem flat_rev {α : Type} (g : Nat → List α) (hg : ∀ f, (g f).reverse = g f) : ∀ n, ((List.range n).flatMap g).reverse = (List.range n).flatMap fun f => g (n - 1 - f)
  | 0 => rfl
  | n + 1 => by
    rw [List.range_succ, List.flatMap_append, List.reverse_append]
    have e : (List.range n ++ [n]).flatMap (fun f => g (n + 1 - 1 - f)) = g n ++ (List.range n).flatMap fun f => g (n - 1 - f) := by
      rw [← List.range_succ, List.range_succ_eq_map, List.flatMap_cons, List.flatMap_map]
      show g (n + 1 - 1 - 0) ++ _ = _
      rw [show n + 1 - 1 - 0 = n by omega]
      congr 1
      refine flat_congr fun f _ => ?_
      rw [show n + 1 - 1 - Nat.succ f = n - 1 - f by omega]
    rw [e, flat_rev g hg n]
    simp [hg]
theorem ldn_rev {b : Nat} (l : List Int) : ldn b l = (lup b l).reverse := by
  unfold lup
  rw [flat_rev _ (fun f => by simp)]
  unfold ldn
  refine flat_congr fun f hf => ?_
  have := List.mem_range.mp hf
  rw [show (((b - 1 - f : Nat)) : Int) = (b : Int) - 1 - (f : Int) by omega]
theorem step_counts {b : Nat} (hb : 0 < b) (L : Nat) (n : Int) : wr b (ldn b (figs b L n)) - wr b (lup b (figs b L n)) = stepM b L n := by
  have h : Digs b (figs b L n) := figs_digs (by omega) L n
  rw [ldn_rev, lup_srt h]
  rfl
/-! figures in another turn; one of like figures -/
theorem step_perm {b : Int} {L : Nat} {n m : Int} (h : (figs b L n).Perm (figs b L m)) : stepM b L n = stepM b L m := by
  unfold stepM
  rw [srt_congr h]
theorem step_turned {b : Int} (hb : 2 ≤ b) (L : Nat) {n : Int} (h0 : 0 ≤ n) (h1 : n < pw b (L + 1)) :
    (0 ≤ n / b + n % b * pw b L ∧ n / b + n % b * pw b L < pw b (L + 1)) ∧ stepM b (L + 1) (n / b + n % b * pw b L) = stepM b (L + 1) n := by
  have hb0 : 0 < b := by omega
  have hd := figs_digs hb0 (L + 1) n
  have hq0 : 0 ≤ n / b := Int.ediv_nonneg h0 (Int.le_of_lt hb0)
  have hq1 : n / b < pw b L := Int.ediv_lt_of_lt_mul hb0 h1
  have hr0 := Int.emod_nonneg n (show b ≠ 0 by omega)
  have hr1 := Int.emod_lt_of_pos n hb0
  have hf : Digs b (figs b L (n / b) ++ [n % b]) := by
    intro d hd
    rcases List.mem_append.mp hd with h | h
    · exact figs_digs hb0 L _ d h
    · have : d = n % b := by simpa using h
      subst this
      exact ⟨hr0, hr1⟩
  have e : wr b (figs b L (n / b) ++ [n % b]).reverse = n / b + n % b * pw b L := by
    rw [List.reverse_append]
    show wr b (n % b :: (figs b L (n / b)).reverse) = _
    rw [wr_cons, List.length_reverse, figs_length, wr_figs hb0 L _ hq0 hq1]
    omega
  have e2 := figs_wr hb0 hf
  rw [e, List.length_append, figs_length] at e2
  have w := wr_bound hb0 (hf.perm (List.reverse_perm _))
  rw [e, List.length_reverse, List.length_append, figs_length] at w
  refine ⟨w, step_perm ?_⟩
  show (figs b (L + 1) _).Perm _
  rw [show figs b (L + 1) (n / b + n % b * pw b L) = figs b L (n / b) ++ [n % b] from e2, figs_cons hb0]
  exact List.perm_append_comm
/-- a number of like figures 1 -/
def rep (b : Int) (L : Nat) : Int := wr b (List.replicate L 1)
theorem rep_eq {b : Int} : ∀ L, rep b L * (b - 1) = pw b L - 1
  | 0 => by show (0 : Int) * (b - 1) = 1 - 1; omega
  | L + 1 => by
    show wr b (List.replicate (L + 1) 1) * (b - 1) = pw b L * b - 1
    rw [List.replicate_succ', wr_append, Int.add_mul, Int.mul_assoc, Int.mul_comm b, ← Int.mul_assoc]
    have ih := rep_eq (b := b) L
    unfold rep at ih
    rw [ih, Int.sub_mul]
    omega
theorem wr_like (b d : Int) : ∀ L, wr b (List.replicate L d) = rep b L * d
  | 0 => by show (0 : Int) = 0 * d; omega
  | L + 1 => by
    unfold rep
    rw [List.replicate_succ', wr_append, wr_like b d L, List.replicate_succ', wr_append, Int.add_mul, Int.mul_assoc, Int.mul_comm d b, ← Int.mul_assoc]
    unfold rep
    omega
theorem step_alike {b : Int} (hb : 2 ≤ b) (L : Nat) {d : Int} (h0 : 0 ≤ d) (h1 : d < b) :
    (0 ≤ (pw b L - 1) / (b - 1) * d ∧ (pw b L - 1) / (b - 1) * d < pw b L) ∧ stepM b L ((pw b L - 1) / (b - 1) * d) = 0 := by
  have hb0 : 0 < b := by omega
  have e : (pw b L - 1) / (b - 1) = rep b L := by
    rw [← rep_eq L, Int.mul_ediv_cancel _ (by omega)]
  rw [e, ← wr_like]
  have hd : Digs b (List.replicate L d) := fun x hx => by
    rw [(List.mem_replicate.mp hx).2]
    exact ⟨h0, h1⟩
  have w := wr_bound hb0 hd
  rw [List.length_replicate] at w
  have f := figs_wr hb0 hd
  rw [List.length_replicate, List.reverse_replicate] at f
  refine ⟨w, ?_⟩
  unfold stepM
  rw [f]
  have s : srt (List.replicate L d) = List.replicate L d := (srt_of (List.Perm.refl _) (List.pairwise_replicate.mpr (.inr (Int.le_refl _)))).symm
  rw [s, List.reverse_replicate]
  omega
/-! the same of lengths as ints -/
theorem Dom.step {b l n : Int} (h : Dom b l n) : Dom b l (stepM b l.toNat n) := ⟨h.1, step_bound h.1.1 _ _⟩
theorem Dom.turned {b l n : Int} (h : Dom b l n) : Dom b l (n / b + n % b * pw b (l - 1).toNat) ∧ stepM b l.toNat (n / b + n % b * pw b (l - 1).toNat) = stepM b l.toNat n := by
  obtain ⟨⟨h1, h2, h3, h4⟩, h5, h6⟩ := h
  have e : l.toNat = (l - 1).toNat + 1 := by omega
  have t := step_turned h1 (l - 1).toNat h5 (by rw [← e]; exact h6)
  rw [← e] at t
  exact ⟨⟨⟨h1, h2, h3, h4⟩, t.1⟩, t.2⟩
theorem Dom.alike {b l n : Int} (h : Dom b l n) : Dom b l ((pw b l.toNat - 1) / (b - 1) * (n % b)) ∧ stepM b l.toNat ((pw b l.toNat - 1) / (b - 1) * (n % b)) = 0 := by
  have hb := h.1.1
  have t := step_alike hb l.toNat (Int.emod_nonneg n (show b ≠ 0 by omega)) (Int.emod_lt_of_pos n (by omega))
  exact ⟨⟨h.1, t.1⟩, t.2⟩
theorem Dom.top {b l n : Int} (h : Dom b l n) : Dom b l (pw b l.toNat - 1) := ⟨h.1, by have := pw_pos (b := b) (by have := h.1.1; omega) l.toNat; omega, by omega⟩
theorem Dom.one {b l n : Int} (h : Dom b l n) : Dom b l (pw b (l - 1).toNat) := by
  obtain ⟨⟨h1, h2, h3, h4⟩, h5, h6⟩ := h
  have e : l.toNat = (l - 1).toNat + 1 := by omega
  have p := pw_pos (b := b) (by omega) (l - 1).toNat
  refine ⟨⟨h1, h2, h3, h4⟩, by omega, ?_⟩
  rw [e]
  show _ < pw b (l - 1).toNat * b
  have := Int.mul_le_mul_of_nonneg_left h1 (Int.le_of_lt p)
  omega
end Sl
namespace Sl
/-! ### steps again and again: courses -/
def it (f : Int → Int) : Nat → Int → Int
  | 0, n => n
  | k + 1, n => f (it f k n)
theorem it_add (f : Int → Int) (j : Nat) (n : Int) : ∀ k, it f (j + k) n = it f k (it f j n)
  | 0 => rfl
  | k + 1 => by
    show f (it f (j + k) n) = f (it f k (it f j n))
    rw [it_add f j n k]
theorem it_congr {f g : Int → Int} {P : Int → Prop} (hP : ∀ x, P x → f x = g x ∧ P (f x)) {n : Int} (hn : P n) : ∀ k, it f k n = it g k n ∧ P (it f k n)
  | 0 => ⟨rfl, hn⟩
  | k + 1 => by
    obtain ⟨h1, h2⟩ := it_congr hP hn k
    obtain ⟨h3, h4⟩ := hP _ h2
    exact ⟨by show f (it f k n) = g (it g k n); rw [h3, h1], h4⟩
/-- the first m numbers -/
def orb (f : Int → Int) (n : Int) (m : Nat) : List Int := (List.range m).map fun i => it f i n
theorem orb_len (f : Int → Int) (n : Int) (m : Nat) : (orb f n m).length = m := by simp [orb]
theorem orb_succ (f : Int → Int) (n : Int) (m : Nat) : orb f n (m + 1) = orb f n m ++ [it f m n] := by simp [orb, List.range_succ]
theorem orb_get {f : Int → Int} {n : Int} {m i : Nat} (h : i < m) : (orb f n m)[i]? = some (it f i n) := by simp [orb, h]
/-- the first m numbers differ -/
def Apart (f : Int → Int) (n : Int) (m : Nat) : Prop := ∀ i j, i < m → j < m → it f i n = it f j n → i = j
/-- .. and the next one is the c-th again -/
structure Course (f : Int → Int) (n : Int) (m c : Nat) : Prop where
  lt : c < m
  back : it f m n = it f c n
  apart : Apart f n m
theorem Apart.zero (f : Int → Int) (n : Int) : Apart f n 0 := fun _ _ h => absurd h (Nat.not_lt_zero _)
theorem Apart.succ {f : Int → Int} {n : Int} {m : Nat} (h : Apart f n m) (h2 : ∀ c, c < m → it f m n ≠ it f c n) : Apart f n (m + 1) := fun i j hi hj e => by
  by_cases ei : i = m
  · by_cases ej : j = m
    · omega
    · rw [ei] at e
      exact absurd e (h2 j (by omega))
  · by_cases ej : j = m
    · rw [ej] at e
      exact absurd e.symm (h2 i (by omega))
    · exact h i j (by omega) (by omega) e
theorem Course.one {f : Int → Int} {n : Int} {m c m' c' : Nat} (h : Course f n m c) (h' : Course f n m' c') : m = m' ∧ c = c' := by
  have key : ∀ {m c m' c' : Nat}, Course f n m c → Course f n m' c' → m ≤ m' := fun {m c m' c'} h h' => by
    by_cases e : m' < m
    · have := h.apart m' c' e (by have := h'.lt; omega) h'.back
      have := h'.lt
      omega
    · omega
  have e : m = m' := Nat.le_antisymm (key h h') (key h' h)
  subst e
  refine ⟨rfl, ?_⟩
  exact h.apart c c' h.lt h'.lt (h.back.symm.trans h'.back)
theorem Apart.nodup {f : Int → Int} {n : Int} {m : Nat} (h : Apart f n m) : (orb f n m).Nodup := by
  unfold orb
  rw [List.nodup_iff_pairwise_ne, List.pairwise_map]
  refine List.Pairwise.imp_of_mem ?_ List.nodup_range
  intro i j hi hj ne e
  exact ne (h i j (List.mem_range.mp hi) (List.mem_range.mp hj) e)
/-- so many numbers at most, where all steps make numbers of a list -/
theorem Apart.le {f : Int → Int} {n : Int} {m : Nat} (h : Apart f n m) {S : List Int} (hS : ∀ x, f x ∈ S) : m ≤ S.length + 1 := by
  have h1 := h.nodup.length_le_of_subset (l₂ := n :: S) (fun x hx => by
    simp only [orb, List.mem_map, List.mem_range] at hx
    obtain ⟨i, _, rfl⟩ := hx
    cases i with
    | zero => exact List.mem_cons_self
    | succ i => exact List.mem_cons_of_mem _ (hS _))
  rw [orb_len] at h1
  exact h1
/-- behind the beginning the numbers come again -/
theorem Course.per {f : Int → Int} {n : Int} {m c : Nat} (h : Course f n m c) (k : Nat) : it f (c + k) n = it f (c + k % (m - c)) n := by
  have hlt := h.lt
  induction k using Nat.strongRecOn with
  | ind k ih =>
    by_cases hk : k < m - c
    · rw [Nat.mod_eq_of_lt hk]
    · have e1 : it f (c + k) n = it f (c + (k - (m - c))) n := by
        rw [show c + k = m + (k - (m - c)) by omega, it_add, h.back, ← it_add]
      rw [e1, ih (k - (m - c)) (by omega)]
      have e2 : (k - (m - c)) % (m - c) = k % (m - c) := by
        rw [← Nat.mod_eq_sub_mod (by omega)]
      rw [e2]
/-- the place of what comes of s steps -/
def place (m c : Nat) (s : Int) : Int := if s < m then s else c + (s - c) % ((m : Int) - c)
theorem Course.place {f : Int → Int} {n : Int} {m c : Nat} (h : Course f n m c) {s : Int} (hs : 0 ≤ s) : 0 ≤ place m c s ∧ place m c s < m ∧ it f (place m c s).toNat n = it f s.toNat n := by
  have hlt := h.lt
  unfold Sl.place
  by_cases hm : s < m
  · rw [if_pos hm]
    exact ⟨hs, hm, rfl⟩
  · rw [if_neg hm]
    have h0 := Int.emod_nonneg (s - c) (show (m : Int) - c ≠ 0 by omega)
    have h1 := Int.emod_lt_of_pos (s - c) (show 0 < (m : Int) - c by omega)
    refine ⟨by omega, by omega, ?_⟩
    have e1 : s.toNat = c + (s.toNat - c) := by omega
    have e2 : ((c : Int) + (s - c) % ((m : Int) - c)).toNat = c + (s.toNat - c) % (m - c) := by
      have e3 : (((s.toNat - c) % (m - c) : Nat) : Int) = (s - c) % ((m : Int) - c) := by
        rw [Int.natCast_emod]
        congr 1 <;> omega
      omega
    rw [e2, ← h.per, ← e1]
/-! the differences of the greatest and the least figure, and so on -/
def difs (l : List Int) : List Int := ((l.reverse.zip l).take (l.length / 2)).map fun p => p.1 - p.2
/-- what a step makes of such differences -/
def mk (b : Int) : Nat → List Int → Int
  | _, [] => 0
  | L, d :: ds => d * (pw b (L - 1) - 1) + b * mk b (L - 2) ds
theorem difs_peel (x y : Int) (m : List Int) : difs (x :: (m ++ [y])) = (y - x) :: difs m := by
  unfold difs
  rw [rev_peel, List.zip_cons_cons, List.length_cons, List.length_append, List.length_singleton, show (m.length + 1 + 1) / 2 = m.length / 2 + 1 by omega, List.take_succ_cons, List.map_cons]
  rw [List.zip_append (by simp), List.take_append_of_le_length (by simp; omega)]
theorem step_mk (b : Int) (l : List Int) : wr b l.reverse - wr b l = mk b l.length (difs l) := by
  induction l using ends_ind with
  | h0 => rfl
  | h1 x =>
    have e : difs [x] = [] := by simp [difs]
    rw [e]
    show wr b [x] - wr b [x] = 0
    omega
  | h2 x m y ih =>
    rw [diff_peel, difs_peel, ih]
    show _ = (y - x) * (pw b ((x :: (m ++ [y])).length - 1) - 1) + b * mk b ((x :: (m ++ [y])).length - 2) (difs m)
    have e : (x :: (m ++ [y])).length = m.length + 2 := by simp
    rw [e]
    rfl
theorem difs_len (l : List Int) : (difs l).length = l.length / 2 := by
  simp [difs]
  omega
theorem difs_mem {l : List Int} {d : Int} (h : d ∈ difs l) : ∃ x ∈ l, ∃ y ∈ l, d = y - x := by
  simp only [difs, List.mem_map] at h
  obtain ⟨⟨y, x⟩, hp, rfl⟩ := h
  have hz := List.mem_of_mem_take hp
  exact ⟨x, (List.of_mem_zip hz).2, y, List.mem_reverse.mp (List.of_mem_zip hz).1, rfl⟩
theorem difs_falls {b : Int} (l : List Int) : l.Pairwise (· ≤ ·) → Digs b l → (difs l).Pairwise (· ≥ ·) ∧ Digs b (difs l) := by
  induction l using ends_ind with
  | h0 => intro _ _; exact ⟨List.Pairwise.nil, fun _ h => nomatch h⟩
  | h1 x =>
    intro _ _
    have e : difs [x] = [] := by simp [difs]
    rw [e]
    exact ⟨List.Pairwise.nil, fun _ h => nomatch h⟩
  | h2 x m y ih =>
    intro h hd
    obtain ⟨h1, h2⟩ := List.pairwise_cons.mp h
    obtain ⟨h3, _, h4⟩ := List.pairwise_append.mp h2
    have hx := hd x (by simp)
    have hy := hd y (by simp)
    have hxy : x ≤ y := h1 y (by simp)
    obtain ⟨i1, i2⟩ := ih h3 (fun d hm => hd d (by simp [hm]))
    rw [difs_peel]
    refine ⟨List.pairwise_cons.mpr ⟨fun d hm => ?_, i1⟩, fun d hm => ?_⟩
    · obtain ⟨u, hu, v, hv, rfl⟩ := difs_mem hm
      have a1 := h1 u (by simp [hu])
      have a2 := h4 v hv y (by simp)
      show y - x ≥ v - u
      omega
    · rcases List.mem_cons.mp hm with rfl | hm
      · omega
      · exact i2 d hm
/-- all rows of so many figures -/
def ddl (b : Nat) : Nat → List (List Int)
  | 0 => [[]]
  | h + 1 => (List.range b).flatMap fun (d : Nat) => (ddl b h).map fun r => (d : Int) :: r
theorem ddl_len (b : Nat) : ∀ h, (ddl b h).length = b ^ h
  | 0 => rfl
  | h + 1 => by
    have key : ∀ n, ((List.range n).flatMap fun (d : Nat) => (ddl b h).map fun r => (d : Int) :: r).length = n * b ^ h := fun n => by
      induction n with
      | zero => simp
      | succ n ih =>
        rw [List.range_succ, List.flatMap_append, List.length_append, ih, Nat.succ_mul]
        simp [ddl_len b h]
    show ((List.range b).flatMap fun (d : Nat) => (ddl b h).map fun r => (d : Int) :: r).length = _
    rw [key b, Nat.pow_succ, Nat.mul_comm]
theorem ddl_mem {b : Nat} : ∀ {r : List Int}, Digs b r → r ∈ ddl b r.length
  | [], _ => List.mem_singleton.mpr rfl
  | d :: r, h => by
    obtain ⟨⟨h1, h2⟩, h3⟩ := h.cons
    show d :: r ∈ (List.range b).flatMap fun (d : Nat) => (ddl b r.length).map fun r => (d : Int) :: r
    rw [List.mem_flatMap]
    refine ⟨d.toNat, List.mem_range.mpr (by omega), ?_⟩
    rw [List.mem_map]
    exact ⟨r, ddl_mem h3, by rw [Int.toNat_of_nonneg h1]⟩
/-- what a step can make -/
def imgs (b : Int) (L : Nat) : List Int := (ddl b.toNat (L / 2)).map fun r => mk b L r
theorem step_difs (b : Int) (L : Nat) (n : Int) : stepM b L n = mk b L (difs (srt (figs b L n))) := by
  unfold stepM
  rw [step_mk, srt_length, figs_length]
theorem step_imgs {b : Int} (hb : 0 < b) (L : Nat) (n : Int) : stepM b L n ∈ imgs b L := by
  rw [step_difs]
  refine List.mem_map.mpr ⟨_, ?_, rfl⟩
  have d0 : Digs b (srt (figs b L n)) := (figs_digs hb L n).perm (srt_perm _)
  have h := ddl_mem (b := b.toNat) (r := difs (srt (figs b L n))) (by rw [Int.toNat_of_nonneg (Int.le_of_lt hb)]; exact (difs_falls _ (srt_sorted _) d0).2)
  rw [difs_len, srt_length, figs_length] at h
  exact h
theorem imgs_len {b : Int} (h0 : 0 ≤ b) (hb : b ≤ 12) {L : Nat} (hL : L ≤ 8) : (imgs b L).length ≤ 20736 := by
  unfold imgs
  rw [List.length_map, ddl_len]
  have h1 : b.toNat ^ (L / 2) ≤ 12 ^ (L / 2) := Nat.pow_le_pow_left (by omega) _
  have h2 : 12 ^ (L / 2) ≤ 12 ^ 4 := Nat.pow_le_pow_right (by decide) (by omega)
  have h3 : (12 : Nat) ^ 4 = 20736 := by decide
  omega
theorem apart_le {b l n : Int} (h : 2 ≤ b ∧ b ≤ 12 ∧ 1 ≤ l ∧ l ≤ 8) {m : Nat} (ha : Apart (stepM b l.toNat) n m) : m ≤ 20737 := by
  have h1 := ha.le (S := imgs b l.toNat) (fun x => step_imgs (by omega) _ x)
  have h2 := imgs_len (b := b) (by omega) h.2.1 (L := l.toNat) (by omega)
  omega
theorem Dom.it {b l n : Int} (h : Dom b l n) : ∀ k, Dom b l (it (stepM b l.toNat) k n)
  | 0 => h
  | k + 1 => (Dom.it h k).step
/-- a step as the kernel reckons it -/
def cstep (b L : Nat) (n : Int) : Int := wr b (ldn b (figs b L n)) - wr b (lup b (figs b L n))
theorem cstep_eq {b : Nat} (hb : 0 < b) (L : Nat) : cstep b L = stepM b L := funext fun n => step_counts hb L n
theorem it_fix {f : Int → Int} {x : Int} (h : f x = x) : ∀ k, it f k x = x
  | 0 => rfl
  | k + 1 => by
    show f (it f k x) = x
    rw [it_fix h k, h]
end Sl
namespace Sl
/-! ### the round that comes: its least number -/
theorem it_one (f : Int → Int) (k : Nat) (n : Int) : it f (k + 1) n = it f k (f n) := by
  rw [show k + 1 = 1 + k by omega, it_add]
  rfl
theorem it_comm (f : Int → Int) (j k : Nat) (n : Int) : it f j (it f k n) = it f k (it f j n) := by
  rw [← it_add, ← it_add, Nat.add_comm]
theorem it_mul {f : Int → Int} {n : Int} {p : Nat} (h : it f p n = n) : ∀ k, it f (p * k) n = n
  | 0 => rfl
  | k + 1 => by rw [Nat.mul_succ, it_add, it_mul h k, h]
/-- r is the least number of the round that n comes to -/
structure IsLst (f : Int → Int) (n r : Int) : Prop where
  come : ∃ k, it f k n = r
  back : ∃ p, 0 < p ∧ it f p r = r
  least : ∀ j, r ≤ it f j r
/-- on a round each number is reached from each later one -/
theorem back_of {f : Int → Int} {r : Int} {p : Nat} (hp : 0 < p) (h : it f p r = r) (j : Nat) : ∃ k, it f k (it f j r) = r := by
  refine ⟨p * (j + 1) - j, ?_⟩
  have hle : j ≤ p * (j + 1) := Nat.le_trans (Nat.le_succ j) (Nat.le_mul_of_pos_left (j + 1) hp)
  rw [← it_add, show j + (p * (j + 1) - j) = p * (j + 1) by omega, it_mul h]
theorem IsLst.one {f : Int → Int} {n r s : Int} (h : IsLst f n r) (g : IsLst f n s) : r = s := by
  have key : ∀ {r s : Int}, IsLst f n r → IsLst f n s → r ≤ s := fun {r s} h g => by
    obtain ⟨k, hk⟩ := h.come
    obtain ⟨j, hj⟩ := g.come
    obtain ⟨p, hp, hb⟩ := h.back
    obtain ⟨q, hq, gb⟩ := g.back
    -- s comes of r by steps
    by_cases hjk : k ≤ j
    · have e : it f (j - k) r = s := by rw [← hk, ← it_add, show k + (j - k) = j by omega, hj]
      rw [← e]
      exact h.least _
    · have e : it f (k - j) s = r := by rw [← hj, ← it_add, show j + (k - j) = k by omega, hk]
      obtain ⟨i, hi⟩ := back_of hq gb (k - j)
      rw [e] at hi
      rw [← hi]
      exact h.least _
  exact Int.le_antisymm (key h g) (key g h)
theorem IsLst.up {f : Int → Int} {n r : Int} (h : IsLst f (f n) r) : IsLst f n r := by
  obtain ⟨k, hk⟩ := h.come
  exact ⟨⟨k + 1, by rw [it_one, hk]⟩, h.back, h.least⟩
theorem IsLst.down {f : Int → Int} {n r : Int} (h : IsLst f n r) : IsLst f (f n) r := by
  obtain ⟨k, hk⟩ := h.come
  refine ⟨?_, h.back, h.least⟩
  cases k with
  | zero =>
    obtain ⟨p, hp, hb⟩ := h.back
    have e : n = r := hk
    subst e
    exact ⟨p - 1, by rw [← it_one, show p - 1 + 1 = p by omega, hb]⟩
  | succ k => exact ⟨k, by rw [← it_one, hk]⟩
theorem IsLst.ups {f : Int → Int} {n r : Int} : ∀ {k : Nat}, IsLst f (it f k n) r → IsLst f n r
  | 0, h => h
  | k + 1, h => IsLst.ups (k := k) (IsLst.up (n := it f k n) h)
theorem IsLst.downs {f : Int → Int} {n r : Int} (h : IsLst f n r) : ∀ k : Nat, IsLst f (it f k n) r
  | 0 => h
  | k + 1 => IsLst.down (IsLst.downs h k)
theorem IsLst.self {f : Int → Int} {n r : Int} (h : IsLst f n r) : IsLst f r r := ⟨⟨0, rfl⟩, h.back, h.least⟩
/-- the least one of a list -/
def lmin : List Int → Int
  | [] => 0
  | [x] => x
  | x :: y :: l => min x (lmin (y :: l))
theorem lmin_mem : ∀ {l : List Int}, l ≠ [] → lmin l ∈ l
  | [], h => absurd rfl h
  | [x], _ => by simp [lmin]
  | x :: y :: l, _ => by
    have ih := lmin_mem (l := y :: l) (by simp)
    show min x (lmin (y :: l)) ∈ x :: y :: l
    rcases Int.le_total x (lmin (y :: l)) with h | h
    · rw [Int.min_eq_left h]
      exact List.mem_cons_self
    · rw [Int.min_eq_right h]
      exact List.mem_cons_of_mem _ ih
theorem lmin_le : ∀ {l : List Int} {x : Int}, x ∈ l → lmin l ≤ x
  | [], x, h => nomatch h
  | [a], x, h => by
    have : x = a := by simpa using h
    rw [this]
    exact Int.le_refl _
  | a :: b :: l, x, h => by
    show min a (lmin (b :: l)) ≤ x
    rcases List.mem_cons.mp h with e | h
    · rw [e]
      exact Int.min_le_left _ _
    · exact Int.le_trans (Int.min_le_right _ _) (lmin_le h)
theorem lmin_eq {l : List Int} {m : Int} (h : m ∈ l) (h2 : ∀ y ∈ l, m ≤ y) : m = lmin l :=
  Int.le_antisymm (h2 _ (lmin_mem (List.ne_nil_of_mem h))) (lmin_le h)
/-- the round's part of a course -/
def ring (f : Int → Int) (n : Int) (m c : Nat) : List Int := (orb f n m).drop c
theorem ring_eq (f : Int → Int) (n : Int) (m c : Nat) : ring f n m c = orb f (it f c n) (m - c) := by
  unfold ring orb
  refine List.ext_getElem? fun i => ?_
  rw [List.getElem?_drop, List.getElem?_map, List.getElem?_map]
  by_cases h : c + i < m
  · rw [List.getElem?_range h, List.getElem?_range (by omega)]
    simp only [Option.map_some]
    rw [it_add]
  · rw [List.getElem?_eq_none (by simp; omega), List.getElem?_eq_none (by simp; omega)]
    rfl
theorem mem_orb {f : Int → Int} {n x : Int} {m : Nat} : x ∈ orb f n m ↔ ∃ i, i < m ∧ it f i n = x := by
  simp [orb]
theorem Course.lst {f : Int → Int} {n : Int} {m c : Nat} (h : Course f n m c) : IsLst f n (lmin (ring f n m c)) := by
  have hlt := h.lt
  have hne : ring f n m c ≠ [] := by
    rw [ring_eq]
    intro e
    have := congrArg List.length e
    rw [orb_len] at this
    simp at this
    omega
  have hm := lmin_mem hne
  have hb0 : it f (m - c) (it f c n) = it f c n := by
    rw [← it_add, show c + (m - c) = m by omega]
    exact h.back
  have hall : ∀ j, lmin (ring f n m c) ≤ it f j (it f c n) := fun j => by
    refine lmin_le ?_
    rw [ring_eq, mem_orb]
    refine ⟨j % (m - c), Nat.mod_lt _ (by omega), ?_⟩
    have e := h.per j
    rw [it_add, it_add] at e
    exact e.symm
  rw [ring_eq, mem_orb] at hm
  obtain ⟨i, hi, e⟩ := hm
  rw [← ring_eq] at e
  refine ⟨⟨c + i, by rw [it_add, e]⟩, ⟨m - c, by omega, ?_⟩, fun j => ?_⟩
  · rw [← e, it_comm, hb0]
  · have := hall (i + j)
    rw [it_add, e] at this
    exact this
theorem course_ex {f : Int → Int} {S : List Int} (hS : ∀ x, f x ∈ S) (n : Int) : ∃ m c, Course f n m c := by
  have key : ∀ k m, m + k = S.length + 2 → Apart f n m → ∃ m c, Course f n m c := by
    intro k
    induction k with
    | zero =>
      intro m hm ha
      have := ha.le hS
      omega
    | succ k ih =>
      intro m hm ha
      by_cases h : ∃ c, c < m ∧ it f m n = it f c n
      · obtain ⟨c, hc, e⟩ := h
        exact ⟨m, c, hc, e, ha⟩
      · exact ih (m + 1) (by omega) (ha.succ fun c hc e => h ⟨c, hc, e⟩)
  exact key (S.length + 2) 0 (by omega) (Apart.zero f n)
/-- what stands on a round has its course from the beginning on -/
theorem Course.round {f : Int → Int} {r : Int} {m c p : Nat} (h : Course f r m c) (hp : 0 < p) (hb : it f p r = r) : c = 0 := by
  have hlt := h.lt
  by_cases hc : c = 0
  · exact hc
  · have on : ∀ j, it f p (it f j r) = it f j r := fun j => by rw [it_comm, hb]
    have e : it f (c - 1) r = it f (m - 1) r := by
      rw [← on (c - 1), ← on (m - 1), show p = (p - 1) + 1 by omega, it_one, it_one]
      have e1 : f (it f (c - 1) r) = it f c r := by
        show it f (c - 1 + 1) r = _
        rw [show c - 1 + 1 = c by omega]
      have e2 : f (it f (m - 1) r) = it f m r := by
        show it f (m - 1 + 1) r = _
        rw [show m - 1 + 1 = m by omega]
      rw [e1, e2, h.back]
    have := h.apart (c - 1) (m - 1) (by omega) (by omega) e
    omega
theorem IsLst.course {f : Int → Int} {r : Int} {m c : Nat} (g : IsLst f r r) (h : Course f r m c) : c = 0 := by
  obtain ⟨p, hp, hb⟩ := g.back
  exact h.round hp hb
/-- the round of r: all its numbers, from r on -/
theorem IsLst.ring {f : Int → Int} {n r : Int} {m c k : Nat} (hr : IsLst f n r) (h : Course f n m c) (g : Course f r k 0) : k = m - c := by
  have hlt := h.lt
  obtain ⟨j, hj⟩ := hr.come
  obtain ⟨p, hp, hb⟩ := hr.back
  -- the period of r divides .. by both being the fewest
  have b0 : it f (m - c) r = r := by
    have e0 : it f (m - c) (it f c n) = it f c n := by
      rw [← it_add, show c + (m - c) = m by omega]
      exact h.back
    -- r comes of it f c n
    have : ∃ i, it f i (it f c n) = r := by
      obtain ⟨i, hi⟩ := back_of hp hb c
      refine ⟨j + i, ?_⟩
      rw [← it_add, show c + (j + i) = j + (c + i) by omega, it_add, hj, it_add, hi]
    obtain ⟨i, hi⟩ := this
    rw [← hi, it_comm, e0]
  have h1 : k ≤ m - c := by
    by_cases e : m - c < k
    · have := g.apart (m - c) 0 e (by have := g.lt; omega) b0
      omega
    · omega
  have h2 : m - c ≤ k := by
    by_cases e : k < m - c
    · have gb : it f k r = r := g.back
      have e0 : it f (m - c) (it f c n) = it f c n := by
        rw [← it_add, show c + (m - c) = m by omega]
        exact h.back
      -- it f c n comes of r
      have : ∃ i, it f i r = it f c n := by
        obtain ⟨i, hi⟩ := back_of (show 0 < m - c by omega) e0 j
        refine ⟨c + i, ?_⟩
        rw [← hj, ← it_add, show j + (c + i) = c + (j + i) by omega, it_add, it_add, hi]
      obtain ⟨i, hi⟩ := this
      have e1 : it f k (it f c n) = it f c n := by rw [← hi, it_comm, gb]
      rw [← it_add] at e1
      have := h.apart (c + k) c (by omega) hlt e1
      have := g.lt
      omega
    · omega
  omega
theorem orb_cons {f : Int → Int} {n : Int} {m : Nat} (h : 0 < m) : ∃ l, orb f n m = n :: l := by
  cases m with
  | zero => omega
  | succ m =>
    unfold orb
    rw [List.range_succ_eq_map]
    exact ⟨_, rfl⟩
theorem orb_lmin {f : Int → Int} {r : Int} {m : Nat} (h : IsLst f r r) (hm : 0 < m) : lmin (orb f r m) = r := by
  refine (lmin_eq ?_ ?_).symm
  · rw [mem_orb]
    exact ⟨0, hm, rfl⟩
  · intro y hy
    obtain ⟨i, _, rfl⟩ := mem_orb.mp hy
    exact h.least i
theorem step_lst {b l : Int} (h : 2 ≤ b ∧ b ≤ 12 ∧ 1 ≤ l ∧ l ≤ 8) (n : Int) : ∃ r, IsLst (stepM b l.toNat) n r := by
  obtain ⟨m, c, hC⟩ := course_ex (S := imgs b l.toNat) (fun x => step_imgs (by omega) _ x) n
  exact ⟨_, hC.lst⟩
end Sl
namespace Sl
/-! ### differences that don't rise -/
def topD (b : Int) (s : List Int) : Int := s.getLast?.getD (b - 1)
def falls (b : Int) : Nat → List (List Int)
  | 0 => [[]]
  | h + 1 => (falls b h).flatMap fun s => (List.range (topD b s + 1).toNat).map fun (far : Nat) => s ++ [(far : Int)]
/-- they don't rise, and are figures -/
def Fall (b : Int) (s : List Int) : Prop := s.Pairwise (· ≥ ·) ∧ Digs b s
theorem last_le : ∀ {s : List Int} {x y : Int}, s.Pairwise (· ≥ ·) → s.getLast? = some y → x ∈ s → y ≤ x := fun {s x y} hp hl hx => by
  rcases List.eq_nil_or_concat s with e | ⟨m, z, e⟩
  · rw [e] at hx
    cases hx
  · rw [List.concat_eq_append] at e
    subst e
    rw [List.getLast?_concat] at hl
    cases hl
    rcases List.mem_append.mp hx with h | h
    · exact (List.pairwise_append.mp hp).2.2 x h y (by simp)
    · have : x = y := by simpa using h
      omega
theorem fall_snoc {b : Int} (hb : 1 ≤ b) {s : List Int} {d : Int} (hs : Fall b s) : Fall b (s ++ [d]) ↔ 0 ≤ d ∧ d < topD b s + 1 := by
  obtain ⟨h1, h2⟩ := hs
  constructor
  · rintro ⟨g1, g2⟩
    have hd := g2 d (by simp)
    refine ⟨hd.1, ?_⟩
    unfold topD
    cases e : s.getLast? with
    | none => show d < b - 1 + 1; omega
    | some y =>
      have := (List.pairwise_append.mp g1).2.2 y (List.mem_of_getLast? e) d (by simp)
      show d < y + 1
      omega
  · rintro ⟨g1, g2⟩
    have hle : d < b ∧ ∀ x ∈ s, x ≥ d := by
      unfold topD at g2
      cases e : s.getLast? with
      | none =>
        rw [e] at g2
        have g3 : d < b - 1 + 1 := g2
        refine ⟨by omega, fun x hx => ?_⟩
        rw [List.getLast?_eq_none_iff.mp e] at hx
        cases hx
      | some y =>
        rw [e] at g2
        have g3 : d < y + 1 := g2
        have hy := h2 y (List.mem_of_getLast? e)
        refine ⟨by omega, fun x hx => ?_⟩
        have := last_le h1 e hx
        omega
    refine ⟨List.pairwise_append.mpr ⟨h1, List.pairwise_singleton _ _, fun x hx y hy => ?_⟩, fun x hx => ?_⟩
    · have : y = d := by simpa using hy
      rw [this]
      exact hle.2 x hx
    · rcases List.mem_append.mp hx with h | h
      · exact h2 x h
      · have : x = d := by simpa using h
        omega
theorem falls_mem {b : Int} (hb : 1 ≤ b) : ∀ {h : Nat} {s : List Int}, s ∈ falls b h ↔ s.length = h ∧ Fall b s
  | 0, s => by
    constructor
    · intro hs
      have : s = [] := by simpa [falls] using hs
      subst this
      exact ⟨rfl, List.Pairwise.nil, fun _ h => nomatch h⟩
    · rintro ⟨h, _⟩
      have : s = [] := List.length_eq_zero_iff.mp h
      subst this
      simp [falls]
  | h + 1, s => by
    show s ∈ (falls b h).flatMap _ ↔ _
    rw [List.mem_flatMap]
    constructor
    · rintro ⟨r, hr, hs⟩
      obtain ⟨h1, h2⟩ := (falls_mem hb).mp hr
      obtain ⟨far, hf, rfl⟩ := List.mem_map.mp hs
      have := List.mem_range.mp hf
      refine ⟨by simp [h1], (fall_snoc hb h2).mpr ⟨by omega, by omega⟩⟩
    · rintro ⟨hl, hF⟩
      rcases List.eq_nil_or_concat s with e | ⟨m, z, e⟩
      · rw [e] at hl
        cases hl
      · rw [List.concat_eq_append] at e
        subst e
        have hm : Fall b m := ⟨(List.pairwise_append.mp hF.1).1, fun x hx => hF.2 x (by simp [hx])⟩
        obtain ⟨g1, g2⟩ := (fall_snoc hb hm).mp hF
        refine ⟨m, (falls_mem hb).mpr ⟨by simpa using hl, hm⟩, List.mem_map.mpr ⟨z.toNat, List.mem_range.mpr (by omega), ?_⟩⟩
        rw [show ((z.toNat : Nat) : Int) = z by omega]
theorem nodup_flat {α β : Type} {f : α → List β} {l : List α} (h1 : l.Nodup) (h2 : ∀ a ∈ l, (f a).Nodup) (h3 : ∀ a ∈ l, ∀ c ∈ l, ∀ x, x ∈ f a → x ∈ f c → a = c) : (l.flatMap f).Nodup := by
  unfold List.Nodup
  rw [List.pairwise_flatMap]
  refine ⟨h2, List.Pairwise.imp_of_mem ?_ h1⟩
  intro a c ha hc ne x hx y hy e
  subst e
  exact ne (h3 a ha c hc x hx hy)
theorem nodup_map {α β : Type} {f : α → β} {l : List α} (h1 : l.Nodup) (h2 : ∀ a ∈ l, ∀ c ∈ l, f a = f c → a = c) : (l.map f).Nodup := by
  unfold List.Nodup
  rw [List.pairwise_map]
  refine List.Pairwise.imp_of_mem ?_ h1
  intro a c ha hc ne e
  exact ne (h2 a ha c hc e)
theorem falls_nodup (b : Int) : ∀ h, (falls b h).Nodup
  | 0 => by
    show ([[]] : List (List Int)).Nodup
    simp
  | h + 1 => by
    refine nodup_flat (falls_nodup b h) (fun s _ => ?_) (fun s _ t _ x hx hy => ?_)
    · refine nodup_map List.nodup_range fun i _ j _ e => ?_
      have := (List.append_inj' e rfl).2
      simp at this
      omega
    · obtain ⟨i, _, rfl⟩ := List.mem_map.mp hx
      obtain ⟨j, _, e⟩ := List.mem_map.mp hy
      exact (List.append_inj' e rfl).1.symm
theorem falls_len {b : Int} (h0 : 2 ≤ b) (hb : b ≤ 12) {h : Nat} (hh : h ≤ 4) : (falls b h).length ≤ 20736 := by
  have hs : falls b h ⊆ ddl b.toNat h := fun s hs => by
    obtain ⟨h1, h2⟩ := (falls_mem (by omega)).mp hs
    have := ddl_mem (b := b.toNat) (r := s) (by rw [Int.toNat_of_nonneg (by omega)]; exact h2.2)
    rw [h1] at this
    exact this
  have h1 := (falls_nodup b h).length_le_of_subset hs
  rw [ddl_len] at h1
  have h2 : b.toNat ^ h ≤ 12 ^ h := Nat.pow_le_pow_left (by omega) _
  have h3 : 12 ^ h ≤ 12 ^ 4 := Nat.pow_le_pow_right (by decide) (by omega)
  have h4 : (12 : Nat) ^ 4 = 20736 := by decide
  omega
/-! what a step makes of such differences, weight by weight -/
def wgt (b : Int) (L : Nat) (at_ : Nat) : Int := pw b (L - 1 - at_) - pw b at_
/-- the sum from the place a on -/
def dot (b : Int) (L : Nat) : Nat → List Int → Int
  | _, [] => 0
  | a, d :: ds => d * wgt b L a + dot b L (a + 1) ds
theorem dot_snoc (b : Int) (L : Nat) : ∀ (a : Nat) (ds : List Int) (d : Int), dot b L a (ds ++ [d]) = dot b L a ds + d * wgt b L (a + ds.length)
  | a, [], d => by
    show d * wgt b L a + 0 = 0 + d * wgt b L (a + 0)
    rw [Nat.add_zero]
    omega
  | a, x :: ds, d => by
    show x * wgt b L a + dot b L (a + 1) (ds ++ [d]) = x * wgt b L a + dot b L (a + 1) ds + d * wgt b L (a + (ds.length + 1))
    rw [dot_snoc b L (a + 1) ds d, show a + 1 + ds.length = a + (ds.length + 1) by omega]
    omega
theorem wgt_eq {b : Int} {L a : Nat} (h : 2 * a + 1 ≤ L) : wgt b L a = pw b a * (pw b (L - 1 - 2 * a) - 1) := by
  unfold wgt
  rw [Int.mul_sub, Int.mul_one, ← pw_add, show a + (L - 1 - 2 * a) = L - 1 - a by omega]
theorem wgt_pos {b : Int} (hb : 2 ≤ b) {L a : Nat} (h : 2 * a + 2 ≤ L) : 0 < wgt b L a := by
  rw [wgt_eq (by omega)]
  refine Int.mul_pos (pw_pos (by omega) a) ?_
  have h1 := pw_up (b := b) (by omega) (show 1 ≤ L - 1 - 2 * a by omega)
  have h2 : pw b 1 = 1 * b := rfl
  omega
theorem dot_mk {b : Int} {L : Nat} : ∀ (ds : List Int) (a : Nat), 2 * (a + ds.length) ≤ L → dot b L a ds = pw b a * mk b (L - 2 * a) ds
  | [], a, _ => by
    show (0 : Int) = pw b a * 0
    omega
  | d :: ds, a, h => by
    have h' : 2 * (a + (ds.length + 1)) ≤ L := h
    show d * wgt b L a + dot b L (a + 1) ds = pw b a * (d * (pw b (L - 2 * a - 1) - 1) + b * mk b (L - 2 * a - 2) ds)
    rw [dot_mk ds (a + 1) (by omega), wgt_eq (by omega), show L - 2 * (a + 1) = L - 2 * a - 2 by omega, show L - 1 - 2 * a = L - 2 * a - 1 by omega]
    show d * (pw b a * (pw b (L - 2 * a - 1) - 1)) + pw b a * b * mk b (L - 2 * a - 2) ds = _
    generalize mk b (L - 2 * a - 2) ds = M
    generalize pw b (L - 2 * a - 1) - 1 = W
    generalize pw b a = P
    rw [Int.mul_add, ← Int.mul_assoc, ← Int.mul_assoc, ← Int.mul_assoc, Int.mul_comm d P]
theorem mk_bound {b : Int} (hb : 2 ≤ b) : ∀ (ds : List Int) (L : Nat), 2 * ds.length ≤ L → Digs b ds → 0 ≤ mk b L ds ∧ mk b L ds < pw b L
  | [], L, _, _ => ⟨Int.le_refl _, pw_pos (by omega) L⟩
  | d :: ds, L, h, hd => by
    have h' : 2 * (ds.length + 1) ≤ L := h
    obtain ⟨⟨d0, d1⟩, hd2⟩ := hd.cons
    obtain ⟨i0, i1⟩ := mk_bound hb ds (L - 2) (by omega) hd2
    show 0 ≤ d * (pw b (L - 1) - 1) + b * mk b (L - 2) ds ∧ d * (pw b (L - 1) - 1) + b * mk b (L - 2) ds < pw b L
    have e1 : pw b L = b * pw b (L - 1) := by rw [← pw_succ', show L - 1 + 1 = L by omega]
    have e2 : pw b (L - 1) = b * pw b (L - 2) := by rw [← pw_succ', show L - 2 + 1 = L - 1 by omega]
    have p1 := pw_pos (b := b) (by omega) (L - 1)
    have a1 : d * (pw b (L - 1) - 1) ≤ (b - 1) * (pw b (L - 1) - 1) := Int.mul_le_mul_of_nonneg_right (by omega) (by omega)
    have a2 : 0 ≤ d * (pw b (L - 1) - 1) := Int.mul_nonneg d0 (by omega)
    have a3 : b * mk b (L - 2) ds ≤ b * (pw b (L - 2) - 1) := Int.mul_le_mul_of_nonneg_left (by omega) (by omega)
    have a4 : 0 ≤ b * mk b (L - 2) ds := Int.mul_nonneg (by omega) i0
    rw [Int.mul_sub, ← e2, Int.mul_one] at a3
    have a5 : (b - 1) * (pw b (L - 1) - 1) = pw b L - b - (pw b (L - 1) - 1) := by rw [Int.sub_mul, Int.mul_sub, ← e1, Int.mul_one, Int.one_mul]
    omega
/-! the weightiest first -/
def grd (b : Int) (L : Nat) : Nat → Nat → Int → List Int
  | 0, _, _ => []
  | k + 1, a, n => (n / wgt b L a) :: grd b L k (a + 1) (n % wgt b L a)
def rst (b : Int) (L : Nat) : Nat → Nat → Int → Int
  | 0, _, n => n
  | k + 1, a, n => rst b L k (a + 1) (n % wgt b L a)
theorem grd_len (b : Int) (L : Nat) : ∀ k a n, (grd b L k a n).length = k
  | 0, _, _ => rfl
  | k + 1, a, n => by
    show (grd b L k (a + 1) (n % wgt b L a)).length + 1 = k + 1
    rw [grd_len b L k]
theorem rst_snoc (b : Int) (L : Nat) : ∀ k a n, rst b L (k + 1) a n = rst b L k a n % wgt b L (a + k)
  | 0, a, n => rfl
  | k + 1, a, n => by
    show rst b L (k + 1) (a + 1) (n % wgt b L a) = rst b L k (a + 1) (n % wgt b L a) % wgt b L (a + (k + 1))
    rw [rst_snoc b L k (a + 1), show a + 1 + k = a + (k + 1) by omega]
theorem grd_snoc (b : Int) (L : Nat) : ∀ k a n, grd b L (k + 1) a n = grd b L k a n ++ [rst b L k a n / wgt b L (a + k)]
  | 0, a, n => rfl
  | k + 1, a, n => by
    show (n / wgt b L a) :: grd b L (k + 1) (a + 1) (n % wgt b L a) = ((n / wgt b L a) :: grd b L k (a + 1) (n % wgt b L a)) ++ [rst b L k (a + 1) (n % wgt b L a) / wgt b L (a + (k + 1))]
    rw [grd_snoc b L k (a + 1), show a + 1 + k = a + (k + 1) by omega]
    rfl
theorem grd_dot (b : Int) (L : Nat) : ∀ k a n, dot b L a (grd b L k a n) + rst b L k a n = n
  | 0, a, n => by
    show 0 + n = n
    omega
  | k + 1, a, n => by
    show (n / wgt b L a) * wgt b L a + dot b L (a + 1) (grd b L k (a + 1) (n % wgt b L a)) + rst b L k (a + 1) (n % wgt b L a) = n
    have := grd_dot b L k (a + 1) (n % wgt b L a)
    have e := Int.mul_ediv_add_emod n (wgt b L a)
    rw [Int.mul_comm] at e
    omega
/-- whatever differences make n are found -/
theorem grd_full {b : Int} (hb : 2 ≤ b) {L : Nat} : ∀ (ds : List Int) (a : Nat), 2 * (a + ds.length) ≤ L → Digs b ds → grd b L ds.length a (dot b L a ds) = ds ∧ rst b L ds.length a (dot b L a ds) = 0
  | [], a, _, _ => ⟨rfl, rfl⟩
  | d :: ds, a, h, hd => by
    have h' : 2 * (a + (ds.length + 1)) ≤ L := h
    obtain ⟨⟨d0, d1⟩, hd2⟩ := hd.cons
    have hw := wgt_pos (b := b) hb (L := L) (a := a) (by omega)
    have hr : 0 ≤ dot b L (a + 1) ds ∧ dot b L (a + 1) ds < wgt b L a := by
      obtain ⟨m0, m1⟩ := mk_bound hb ds (L - 2 * (a + 1)) (by omega) hd2
      rw [dot_mk ds (a + 1) (by omega), wgt_eq (by omega)]
      have p := pw_pos (b := b) (by omega) a
      show 0 ≤ pw b a * b * _ ∧ pw b a * b * mk b (L - 2 * (a + 1)) ds < _
      rw [Int.mul_assoc]
      refine ⟨Int.mul_nonneg (Int.le_of_lt p) (Int.mul_nonneg (by omega) m0), Int.mul_lt_mul_of_pos_left ?_ p⟩
      have a3 : b * mk b (L - 2 * (a + 1)) ds ≤ b * (pw b (L - 2 * (a + 1)) - 1) := Int.mul_le_mul_of_nonneg_left (by omega) (by omega)
      rw [Int.mul_sub, ← pw_succ', show L - 2 * (a + 1) + 1 = L - 1 - 2 * a by omega] at a3
      omega
    have e1 : (d * wgt b L a + dot b L (a + 1) ds) / wgt b L a = d := by
      rw [Int.add_comm, Int.add_mul_ediv_right _ _ (by omega), Int.ediv_eq_zero_of_lt hr.1 hr.2]
      omega
    have e2 : (d * wgt b L a + dot b L (a + 1) ds) % wgt b L a = dot b L (a + 1) ds := by
      rw [Int.add_comm, Int.add_mul_emod_self_right, Int.emod_eq_of_lt hr.1 hr.2]
    obtain ⟨i1, i2⟩ := grd_full hb (L := L) ds (a + 1) (by omega) hd2
    show (d * wgt b L a + dot b L (a + 1) ds) / wgt b L a :: grd b L ds.length (a + 1) ((d * wgt b L a + dot b L (a + 1) ds) % wgt b L a) = d :: ds ∧ rst b L ds.length (a + 1) ((d * wgt b L a + dot b L (a + 1) ds) % wgt b L a) = 0
    rw [e1, e2, i1]
    exact ⟨rfl, i2⟩
theorem mk_inj {b : Int} (hb : 2 ≤ b) {L : Nat} {ds es : List Int} (h : ds.length = es.length) (hL : 2 * ds.length ≤ L) (hd : Digs b ds) (he : Digs b es) (e : mk b L ds = mk b L es) : ds = es := by
  have d1 := dot_mk (b := b) (L := L) ds 0 (by omega)
  have d2 := dot_mk (b := b) (L := L) es 0 (by omega)
  have e2 : dot b L 0 ds = dot b L 0 es := by rw [d1, d2, Nat.mul_zero, Nat.sub_zero, e]
  have g1 := (grd_full hb (L := L) ds 0 (by omega) hd).1
  have g2 := (grd_full hb (L := L) es 0 (by omega) he).1
  rw [e2, h, g2] at g1
  exact g1.symm
theorem dot0 {b : Int} {L : Nat} {ds : List Int} (h : 2 * ds.length ≤ L) : dot b L 0 ds = mk b L ds := by
  rw [dot_mk ds 0 (by omega), Nat.mul_zero, Nat.sub_zero]
  show 1 * _ = _
  rw [Int.one_mul]
/-! a number of such differences: they themselves, then noughts -/
theorem difs_zeros : ∀ (L : Nat), difs (List.replicate L (0 : Int)) = List.replicate (L / 2) 0
  | 0 => rfl
  | 1 => rfl
  | L + 2 => by
    have e : List.replicate (L + 2) (0 : Int) = 0 :: (List.replicate L 0 ++ [0]) := by
      rw [List.replicate_succ, List.replicate_succ']
    rw [e, difs_peel, difs_zeros L, show (L + 2) / 2 = L / 2 + 1 by omega, List.replicate_succ]
    rfl
/-- noughts, then the differences from the least on -/
theorem difs_made : ∀ (ds : List Int) (z : Nat), ds.length ≤ z → z ≤ ds.length + 1 → difs (List.replicate z (0 : Int) ++ ds.reverse) = ds
  | [], z, _, h => by
    have : z = 0 ∨ z = 1 := by
      simp at h
      omega
    rcases this with rfl | rfl <;> rfl
  | d :: ds, z, h1, h2 => by
    simp at h1 h2
    obtain ⟨y, rfl⟩ : ∃ y, z = y + 1 := ⟨z - 1, by omega⟩
    have e : List.replicate (y + 1) (0 : Int) ++ (d :: ds).reverse = 0 :: ((List.replicate y 0 ++ ds.reverse) ++ [d]) := by
      rw [List.replicate_succ, List.reverse_cons]
      simp
    rw [e, difs_peel, difs_made ds y (by omega) (by omega), Int.sub_zero]
theorem made_step {b : Int} (hb : 2 ≤ b) {L : Nat} {ds : List Int} (hl : ds.length = L / 2) (hF : Fall b ds) :
    (0 ≤ wr b (ds ++ List.replicate (L - ds.length) 0) ∧ wr b (ds ++ List.replicate (L - ds.length) 0) < pw b L) ∧ stepM b L (wr b (ds ++ List.replicate (L - ds.length) 0)) = mk b L ds := by
  have hlen : (ds ++ List.replicate (L - ds.length) (0 : Int)).length = L := by
    simp
    omega
  have hD : Digs b (ds ++ List.replicate (L - ds.length) 0) := fun x hx => by
    rcases List.mem_append.mp hx with h | h
    · exact hF.2 x h
    · rw [(List.mem_replicate.mp h).2]
      omega
  have w := wr_bound (b := b) (by omega) hD
  rw [hlen] at w
  refine ⟨w, ?_⟩
  have hDr : Digs b (ds ++ List.replicate (L - ds.length) 0).reverse := hD.perm (List.reverse_perm _)
  have f := figs_wr (b := b) (by omega) hDr
  rw [List.reverse_reverse, List.length_reverse, hlen] at f
  rw [step_difs, f]
  congr 1
  have e : (ds ++ List.replicate (L - ds.length) (0 : Int)).reverse = List.replicate (L - ds.length) 0 ++ ds.reverse := by
    rw [List.reverse_append, List.reverse_replicate]
  have s : srt (ds ++ List.replicate (L - ds.length) (0 : Int)).reverse = List.replicate (L - ds.length) 0 ++ ds.reverse := by
    rw [e]
    refine (srt_of (List.Perm.refl _) (List.pairwise_append.mpr ⟨List.pairwise_replicate.mpr (.inr (Int.le_refl _)), ?_, fun x hx y hy => ?_⟩)).symm
    · rw [List.pairwise_reverse]
      exact hF.1
    · rw [(List.mem_replicate.mp hx).2]
      exact (hF.2 y (List.mem_reverse.mp hy)).1
  rw [s]
  exact difs_made ds _ (by omega) (by omega)
theorem fall_of_step {b : Int} (hb : 0 < b) (L : Nat) (n : Int) : difs (srt (figs b L n)) ∈ falls b (L / 2) := by
  have d0 : Digs b (srt (figs b L n)) := (figs_digs hb L n).perm (srt_perm _)
  refine (falls_mem (by omega)).mpr ⟨by rw [difs_len, srt_length, figs_length], difs_falls _ (srt_sorted _) d0⟩
/-- numbers from one up to another -/
def rng (lo hi : Int) : List Int := (List.range (hi - lo).toNat).map fun (i : Nat) => lo + (i : Int)
theorem rng_mem {lo hi x : Int} : x ∈ rng lo hi ↔ lo ≤ x ∧ x < hi := by
  unfold rng
  rw [List.mem_map]
  constructor
  · rintro ⟨i, hi, rfl⟩
    have := List.mem_range.mp hi
    omega
  · rintro ⟨h1, h2⟩
    exact ⟨(x - lo).toNat, List.mem_range.mpr (by omega), by omega⟩
theorem rng_nodup (lo hi : Int) : (rng lo hi).Nodup := nodup_map List.nodup_range fun i _ j _ e => by omega
end Sl
namespace Sl
/-! ### how many numbers have given differences -/
def fct : Nat → Nat
  | 0 => 1
  | n + 1 => fct n * (n + 1)
theorem fct_pos : ∀ n, 0 < fct n
  | 0 => by decide
  | n + 1 => Nat.mul_pos (fct_pos n) (Nat.succ_pos n)
/-- how often each figure is there: the product of their factorials -/
def pf (l : List Int) : Nat → Nat
  | 0 => 1
  | k + 1 => pf l k * fct (l.count (k : Int))
theorem pf_pos (l : List Int) : ∀ k, 0 < pf l k
  | 0 => Nat.one_pos
  | k + 1 => Nat.mul_pos (pf_pos l k) (fct_pos _)
theorem pf_perm {l r : List Int} (p : l.Perm r) : ∀ k, pf l k = pf r k
  | 0 => rfl
  | k + 1 => by
    show pf l k * fct (l.count (k : Int)) = pf r k * fct (r.count (k : Int))
    rw [pf_perm p k, p.count_eq]
theorem pf_cons_out (d : Int) (l : List Int) : ∀ k : Nat, ¬ (0 ≤ d ∧ d < (k : Int)) → pf (d :: l) k = pf l k
  | 0, _ => rfl
  | k + 1, h => by
    show pf (d :: l) k * fct ((d :: l).count (k : Int)) = pf l k * fct (l.count (k : Int))
    rw [pf_cons_out d l k (by omega), List.count_cons_of_ne (by omega)]
theorem pf_cons (d : Int) (l : List Int) : ∀ k : Nat, 0 ≤ d → d < (k : Int) → pf (d :: l) k = pf l k * (d :: l).count d
  | 0, h0, h1 => by omega
  | k + 1, h0, h1 => by
    show pf (d :: l) k * fct ((d :: l).count (k : Int)) = pf l k * fct (l.count (k : Int)) * (d :: l).count d
    by_cases e : d = (k : Int)
    · subst e
      rw [pf_cons_out _ l k (by omega), List.count_cons_self]
      show pf l k * (fct (l.count (k : Int)) * (l.count (k : Int) + 1)) = _
      rw [Nat.mul_assoc]
    · rw [pf_cons d l k h0 (by omega), List.count_cons_of_ne (b := d) (a := (k : Int)) (by omega), Nat.mul_assoc, Nat.mul_assoc, Nat.mul_comm (fct _)]
/-- how many rows of so many figures are those of r in some turn -/
def cnt (b L : Nat) (r : List Int) : Nat := (ddl b L).countP fun l => l.isPerm r
theorem countP_congr' {α : Type} {p q : α → Bool} {l : List α} (h : ∀ x ∈ l, p x = q x) : l.countP p = l.countP q := by
  induction l with
  | nil => rfl
  | cons a l ih =>
    rw [List.countP_cons, List.countP_cons, h a (by simp), ih fun x hx => h x (by simp [hx])]
theorem cnt_succ (b L : Nat) (r : List Int) : cnt b (L + 1) r = ((List.range b).map fun (d : Nat) => if r.contains (d : Int) then cnt b L (r.erase (d : Int)) else 0).sum := by
  unfold cnt
  show List.countP _ ((List.range b).flatMap fun (d : Nat) => (ddl b L).map fun r => (d : Int) :: r) = _
  rw [List.countP_flatMap]
  congr 1
  refine List.map_congr_left fun d _ => ?_
  show List.countP _ ((ddl b L).map fun r => (d : Int) :: r) = _
  rw [List.countP_map]
  by_cases h : (d : Int) ∈ r
  · rw [if_pos (by simpa using h)]
    refine countP_congr' fun l _ => ?_
    show ((d : Int) :: l).isPerm r = l.isPerm (r.erase (d : Int))
    show (r.contains (d : Int) && l.isPerm (r.erase (d : Int))) = _
    rw [show r.contains (d : Int) = true by simpa using h, Bool.true_and]
  · rw [if_neg (by simpa using h)]
    rw [List.countP_eq_zero]
    intro l _
    show ¬ (r.contains (d : Int) && l.isPerm (r.erase (d : Int))) = true
    rw [show r.contains (d : Int) = false by simpa using h]
    simp
theorem sum_counts {b : Nat} {r : List Int} (h : Digs b r) : ((List.range b).map fun (d : Nat) => r.count (d : Int)).sum = r.length := by
  have e := (List.perm_iff_count.mpr fun d => lup_count h d : (lup b r).Perm r).length_eq
  unfold lup at e
  rw [List.length_flatMap] at e
  simpa using e
theorem sum_mul {c : Nat} (g : Nat → Nat) : ∀ l : List Nat, (l.map g).sum * c = (l.map fun d => g d * c).sum
  | [] => by simp
  | a :: l => by
    rw [List.map_cons, List.map_cons, List.sum_cons, List.sum_cons, Nat.add_mul, sum_mul g l]
theorem cnt_fct {b : Nat} : ∀ (L : Nat) (r : List Int), r.length = L → Digs b r → cnt b L r * pf r b = fct L
  | 0, r, h, _ => by
    have : r = [] := List.length_eq_zero_iff.mp h
    subst this
    have : ∀ k, pf [] k = 1 := fun k => by
      induction k with
      | zero => rfl
      | succ k ih =>
        show pf [] k * fct 0 = 1
        rw [ih]
        rfl
    rw [this]
    rfl
  | L + 1, r, h, hd => by
    rw [cnt_succ, sum_mul]
    have e : ((List.range b).map fun (d : Nat) => (if r.contains (d : Int) then cnt b L (r.erase (d : Int)) else 0) * pf r b) = (List.range b).map fun (d : Nat) => r.count (d : Int) * fct L := by
      refine List.map_congr_left fun d hdb => ?_
      have hlt := List.mem_range.mp hdb
      by_cases hm : (d : Int) ∈ r
      · rw [if_pos (by simpa using hm)]
        have p := List.perm_cons_erase hm
        have ih := cnt_fct L (r.erase (d : Int)) (by rw [List.length_erase_of_mem hm, h]; omega) (fun x hx => hd x (List.mem_of_mem_erase hx))
        rw [pf_perm p b, pf_cons _ _ b (by omega) (by omega), ← p.count_eq, ← Nat.mul_assoc, ih, Nat.mul_comm]
      · rw [if_neg (by simpa using hm), List.count_eq_zero.mpr hm, Nat.zero_mul, Nat.zero_mul]
    rw [e, ← sum_mul, sum_counts hd, h, Nat.mul_comm]
    rfl
theorem cnt_perm {b L : Nat} {r s : List Int} (p : r.Perm s) : cnt b L r = cnt b L s := by
  refine countP_congr' fun l _ => ?_
  have : l.isPerm r = true ↔ l.isPerm s = true := by
    rw [List.isPerm_iff, List.isPerm_iff]
    exact ⟨fun h => h.trans p, fun h => h.trans p.symm⟩
  cases h1 : l.isPerm r <;> cases h2 : l.isPerm s <;> simp_all
/-! turn by turn, from the end -/
def alkR : List Int → Nat
  | [] => 0
  | [_] => 1
  | x :: y :: l => if y = x then alkR (y :: l) + 1 else 1
def trnR : List Int → Int
  | [] => 1
  | x :: l => trnR l * ((l.length : Int) + 1) / (alkR (x :: l) : Int)
def trn (l : List Int) : Int := trnR l.reverse
theorem alk_count : ∀ {l : List Int} {x : Int}, (x :: l).Pairwise (· ≥ ·) → alkR (x :: l) = (x :: l).count x
  | [], x, _ => by simp [alkR]
  | y :: l, x, h => by
    obtain ⟨h1, h2⟩ := List.pairwise_cons.mp h
    show (if y = x then alkR (y :: l) + 1 else 1) = _
    by_cases e : y = x
    · subst e
      rw [if_pos rfl, alk_count h2, List.count_cons_self, List.count_cons_self (a := y) (l := y :: l), List.count_cons_self]
    · rw [if_neg e, List.count_cons_self]
      have hz : (y :: l).count x = 0 := List.count_eq_zero.mpr fun hm => by
        have g1 := h1 y (by simp)
        rcases List.mem_cons.mp hm with g | g
        · exact e g.symm
        · have := (List.pairwise_cons.mp h2).1 x g
          exact e (Int.le_antisymm g1 this)
      rw [hz]
theorem trn_cnt {b : Nat} : ∀ (l : List Int), l.Pairwise (· ≥ ·) → Digs b l → trnR l = (cnt b l.length l : Int)
  | [], _, _ => by
    have := cnt_fct (b := b) 0 [] rfl (fun _ h => nomatch h)
    show (1 : Int) = _
    have p := pf_pos [] b
    have : cnt b 0 [] = 1 := by
      show List.countP _ [[]] = 1
      rfl
    rw [show ([] : List Int).length = 0 from rfl, this]
    rfl
  | x :: l, h, hd => by
    obtain ⟨h1, h2⟩ := List.pairwise_cons.mp h
    obtain ⟨⟨x0, x1⟩, hd2⟩ := hd.cons
    have ih := trn_cnt l h2 hd2
    have c1 := cnt_fct (b := b) l.length l rfl hd2
    have c2 := cnt_fct (b := b) (l.length + 1) (x :: l) rfl hd
    have p := pf_pos l b
    rw [pf_cons x l b x0 x1, ← alk_count h] at c2
    have e : cnt b (l.length + 1) (x :: l) * alkR (x :: l) = cnt b l.length l * (l.length + 1) := by
      refine Nat.eq_of_mul_eq_mul_right p ?_
      rw [Nat.mul_assoc, Nat.mul_comm (alkR (x :: l)), c2]
      show fct l.length * (l.length + 1) = _
      rw [← c1, Nat.mul_assoc, Nat.mul_assoc, Nat.mul_comm (pf l b)]
    have a0 : 0 < alkR (x :: l) := by
      rw [alk_count h, List.count_cons_self]
      omega
    show trnR l * ((l.length : Int) + 1) / (alkR (x :: l) : Int) = (cnt b (l.length + 1) (x :: l) : Int)
    rw [ih]
    have e2 : ((cnt b l.length l : Nat) : Int) * ((l.length : Int) + 1) = ((cnt b (l.length + 1) (x :: l) : Nat) : Int) * ((alkR (x :: l) : Nat) : Int) := by
      exact_mod_cast e.symm
    rw [e2, Int.mul_ediv_cancel _ (by omega)]
theorem trn_eq {b : Nat} {r : List Int} (h : r.Pairwise (· ≤ ·)) (hd : Digs b r) : trn r = (cnt b r.length r : Int) := by
  unfold trn
  rw [trn_cnt (b := b) r.reverse (by rw [List.pairwise_reverse]; exact h) (hd.perm (List.reverse_perm _)), List.length_reverse, cnt_perm (List.reverse_perm _)]
/-! numbers and rows -/
theorem figs_inj {b : Int} (hb : 0 < b) {L : Nat} {n m : Int} (hn : 0 ≤ n ∧ n < pw b L) (hm : 0 ≤ m ∧ m < pw b L) (e : figs b L n = figs b L m) : n = m := by
  rw [← wr_figs hb L n hn.1 hn.2, e, wr_figs hb L m hm.1 hm.2]
theorem ddl_nodup (b : Nat) : ∀ h, (ddl b h).Nodup
  | 0 => by
    show ([[]] : List (List Int)).Nodup
    simp
  | h + 1 => by
    refine nodup_flat List.nodup_range (fun d _ => ?_) (fun d _ e _ x hx hy => ?_)
    · exact nodup_map (ddl_nodup b h) fun r _ s _ e => (List.cons.inj e).2
    · obtain ⟨r, _, rfl⟩ := List.mem_map.mp hx
      obtain ⟨s, _, q⟩ := List.mem_map.mp hy
      have := (List.cons.inj q).1
      omega
theorem ddl_iff {b : Nat} : ∀ {h : Nat} {r : List Int}, r ∈ ddl b h ↔ r.length = h ∧ Digs b r
  | 0, r => by
    constructor
    · intro hr
      have : r = [] := by simpa [ddl] using hr
      subst this
      exact ⟨rfl, fun _ h => nomatch h⟩
    · rintro ⟨h, _⟩
      rw [List.length_eq_zero_iff.mp h]
      simp [ddl]
  | h + 1, r => by
    constructor
    · intro hr
      have hr' : r ∈ (List.range b).flatMap fun (d : Nat) => (ddl b h).map fun r => (d : Int) :: r := hr
      rw [List.mem_flatMap] at hr'
      obtain ⟨d, hd, hr2⟩ := hr'
      obtain ⟨s, hs, rfl⟩ := List.mem_map.mp hr2
      obtain ⟨h1, h2⟩ := ddl_iff.mp hs
      have := List.mem_range.mp hd
      refine ⟨by simp [h1], fun x hx => ?_⟩
      rcases List.mem_cons.mp hx with e | hx
      · omega
      · exact h2 x hx
    · rintro ⟨h1, h2⟩
      have := ddl_mem h2
      rw [h1] at this
      exact this
theorem pw_nat (b : Nat) : ∀ L, pw (b : Int) L = ((b ^ L : Nat) : Int)
  | 0 => rfl
  | L + 1 => by
    show pw (b : Int) L * (b : Int) = _
    rw [pw_nat b L, Nat.pow_succ]
    omega
/-- all numbers of a base and a length -/
def nums (b L : Nat) : List Int := (List.range (b ^ L)).map fun (n : Nat) => (n : Int)
theorem nums_mem {b L : Nat} {n : Int} : n ∈ nums b L ↔ 0 ≤ n ∧ n < pw (b : Int) L := by
  rw [pw_nat]
  unfold nums
  rw [List.mem_map]
  constructor
  · rintro ⟨k, hk, rfl⟩
    have := List.mem_range.mp hk
    omega
  · rintro ⟨h0, h1⟩
    exact ⟨n.toNat, List.mem_range.mpr (by omega), by omega⟩
theorem nums_nodup (b L : Nat) : (nums b L).Nodup := nodup_map List.nodup_range fun i _ j _ e => by omega
theorem nums_len (b L : Nat) : (nums b L).length = b ^ L := by simp [nums]
theorem nums_figs {b : Nat} (hb : 0 < b) (L : Nat) : ((nums b L).map (figs b L)).Perm (ddl b L) := by
  refine (List.perm_ext_iff_of_nodup (nodup_map (nums_nodup b L) fun n hn m hm e => figs_inj (by omega) (nums_mem.mp hn) (nums_mem.mp hm) e) (ddl_nodup b L)).mpr fun r => ?_
  rw [List.mem_map, ddl_iff]
  constructor
  · rintro ⟨n, _, rfl⟩
    exact ⟨figs_length _ _ _, figs_digs (by omega) _ _⟩
  · rintro ⟨h1, h2⟩
    refine ⟨wr b r.reverse, nums_mem.mpr ?_, ?_⟩
    · have := wr_bound (b := (b : Int)) (by omega) (h2.perm (List.reverse_perm _))
      rw [List.length_reverse, h1] at this
      exact this
    · have := figs_wr (b := (b : Int)) (by omega) h2
      rw [h1] at this
      exact this
theorem count_nums {b : Nat} (hb : 0 < b) (L : Nat) (p : List Int → Bool) : ((nums b L).countP fun n => p (figs b L n)) = (ddl b L).countP p := by
  rw [← (nums_figs hb L).countP_eq p, List.countP_map]
  rfl
/-- rows gathered by what sorting makes of them -/
theorem count_rows {p : List Int → Bool} {R : List (List Int)} (hR : R.Nodup) : ∀ (D : List (List Int)), (∀ l ∈ D, p (srt l) = true ↔ srt l ∈ R) →
    (D.countP fun l => p (srt l)) = (R.map fun r => D.countP fun l => decide (srt l = r)).sum
  | [], _ => by
    have : ∀ R : List (List Int), (R.map fun _ => 0).sum = 0 := fun R => by
      induction R with
      | nil => rfl
      | cons a R ih => rw [List.map_cons, List.sum_cons, ih]
    show 0 = _
    exact (this R).symm
  | l :: D, h => by
    have ih := count_rows hR D fun x hx => h x (by simp [hx])
    have hl := h l (by simp)
    rw [List.countP_cons, ih]
    have e : (R.map fun r => (l :: D).countP fun l => decide (srt l = r)) = R.map fun r => (D.countP fun l => decide (srt l = r)) + (if decide (srt l = r) = true then 1 else 0) := by
      refine List.map_congr_left fun r _ => ?_
      rw [List.countP_cons]
    rw [e]
    have add : ∀ (g k : List Int → Nat) (R : List (List Int)), (R.map fun r => g r + k r).sum = (R.map g).sum + (R.map k).sum := fun g k R => by
      induction R with
      | nil => rfl
      | cons a R ih =>
        rw [List.map_cons, List.map_cons, List.map_cons, List.sum_cons, List.sum_cons, List.sum_cons, ih]
        omega
    rw [add]
    congr 1
    have one : ∀ R : List (List Int), R.Nodup → (R.map fun r => if decide (srt l = r) = true then 1 else 0).sum = if srt l ∈ R then 1 else 0 := fun R => by
      induction R with
      | nil => intro _; simp
      | cons a R ih =>
        intro hn
        obtain ⟨n1, n2⟩ := List.nodup_cons.mp hn
        rw [List.map_cons, List.sum_cons, ih n2]
        by_cases e : srt l = a
        · rw [e, if_pos (by simp), if_neg n1, if_pos (by simp)]
        · rw [if_neg (by simpa using e)]
          by_cases m : srt l ∈ R
          · rw [if_pos m, if_pos (by simp [m])]
          · rw [if_neg m, if_neg (by simp [m, e])]
    rw [one R hR]
    by_cases g : p (srt l) = true
    · rw [if_pos g, if_pos (hl.mp g)]
    · rw [if_neg g, if_neg fun q => g (hl.mpr q)]
theorem srt_isPerm {l r : List Int} (hr : r.Pairwise (· ≤ ·)) : decide (srt l = r) = l.isPerm r := by
  by_cases h : srt l = r
  · rw [decide_eq_true h]
    exact (List.isPerm_iff.mpr (h ▸ (srt_perm l).symm)).symm
  · rw [decide_eq_false h]
    cases e : l.isPerm r with
    | false => rfl
    | true => exact absurd (srt_of (List.isPerm_iff.mp e).symm hr).symm h
/-- of how many numbers the sorted figures are one of R -/
theorem count_trn {b : Nat} (hb : 0 < b) {L : Nat} {p : List Int → Bool} {R : List (List Int)} (hR : R.Nodup) (h : ∀ r, r ∈ R ↔ (r.length = L ∧ r.Pairwise (· ≤ ·) ∧ Digs b r) ∧ p r = true) :
    (((nums b L).countP fun n => p (srt (figs b L n)) : Nat) : Int) = (R.map trn).sum := by
  rw [count_nums hb L fun l => p (srt l)]
  rw [count_rows hR (ddl b L) fun l hl => ?_]
  · have e : ∀ Q : List (List Int), (∀ r ∈ Q, r ∈ R) → (((Q.map fun r => (ddl b L).countP fun l => decide (srt l = r)).sum : Nat) : Int) = (Q.map trn).sum := fun Q => by
      induction Q with
      | nil => intro _; rfl
      | cons r Q ih =>
        intro hQ
        obtain ⟨⟨r1, r2, r3⟩, _⟩ := (h r).mp (hQ r (by simp))
        rw [List.map_cons, List.sum_cons, List.map_cons, List.sum_cons, ← ih fun x hx => hQ x (by simp [hx]), trn_eq r2 r3, Int.natCast_add]
        congr 1
        rw [r1]
        unfold cnt
        congr 1
        exact countP_congr' fun l _ => srt_isPerm r2
    exact e R fun _ h => h
  · obtain ⟨h1, h2⟩ := ddl_iff.mp hl
    rw [h (srt l)]
    exact ⟨fun g => ⟨⟨by rw [srt_length, h1], srt_sorted l, h2.perm (srt_perm l)⟩, g⟩, fun g => g.2⟩
end Sl
namespace Sl
/-! ### rows by their low figures and differences -/
def highs (s ds : List Int) : List Int := List.zipWith (· + ·) s ds
theorem highs_snoc {s ds : List Int} (h : s.length = ds.length) (x d : Int) : highs (s ++ [x]) (ds ++ [d]) = highs s ds ++ [x + d] := by
  unfold highs
  rw [List.zipWith_append h]
  rfl
theorem highs_len {s ds : List Int} (h : s.length = ds.length) : (highs s ds).length = s.length := by
  unfold highs
  rw [List.length_zipWith]
  omega
structure Lows (b : Int) (ds s : List Int) : Prop where
  len : s.length = ds.length
  up : s.Pairwise (· ≤ ·)
  down : (highs s ds).Pairwise (· ≥ ·)
  lo : Digs b s
  hi : Digs b (highs s ds)
/-- where the next low figure begins; where the next high one ends -/
def lowOf (s : List Int) : Int := s.getLast?.getD 0
def highOf (b : Int) (s ds : List Int) : Int := (highs s ds).getLast?.getD (b - 1)
theorem last_ge {s : List Int} {x y : Int} (hp : s.Pairwise (· ≤ ·)) (hl : s.getLast? = some y) (hx : x ∈ s) : x ≤ y := by
  rcases List.eq_nil_or_concat s with e | ⟨m, z, e⟩
  · rw [e] at hx
    cases hx
  · rw [List.concat_eq_append] at e
    subst e
    rw [List.getLast?_concat] at hl
    cases hl
    rcases List.mem_append.mp hx with h | h
    · exact (List.pairwise_append.mp hp).2.2 x h y (by simp)
    · have : x = y := by simpa using h
      omega
theorem lowOf_le {b : Int} {s : List Int} (hp : s.Pairwise (· ≤ ·)) (hd : Digs b s) {x : Int} (h : lowOf s ≤ x) : 0 ≤ x ∧ ∀ y ∈ s, y ≤ x := by
  unfold lowOf at h
  cases e : s.getLast? with
  | none =>
    rw [e] at h
    refine ⟨h, fun y hy => ?_⟩
    rw [List.getLast?_eq_none_iff.mp e] at hy
    cases hy
  | some z =>
    rw [e] at h
    have h' : z ≤ x := h
    have := hd z (List.mem_of_getLast? e)
    exact ⟨by omega, fun y hy => by have := last_ge hp e hy; omega⟩
theorem le_lowOf {s : List Int} {x : Int} (h0 : 0 ≤ x) (h : ∀ y ∈ s, y ≤ x) : lowOf s ≤ x := by
  unfold lowOf
  cases e : s.getLast? with
  | none => exact h0
  | some z => exact h z (List.mem_of_getLast? e)
theorem highOf_ge {b : Int} {t : List Int} (hp : t.Pairwise (· ≥ ·)) (hd : Digs b t) {x : Int} (h : x ≤ t.getLast?.getD (b - 1)) : x < b ∧ ∀ y ∈ t, x ≤ y := by
  cases e : t.getLast? with
  | none =>
    rw [e] at h
    have h' : x ≤ b - 1 := h
    refine ⟨by omega, fun y hy => ?_⟩
    rw [List.getLast?_eq_none_iff.mp e] at hy
    cases hy
  | some z =>
    rw [e] at h
    have h' : x ≤ z := h
    have := hd z (List.mem_of_getLast? e)
    exact ⟨by omega, fun y hy => by have := last_le hp e hy; omega⟩
theorem ge_highOf {b : Int} {t : List Int} {x : Int} (h0 : x < b) (h : ∀ y ∈ t, x ≤ y) : x ≤ t.getLast?.getD (b - 1) := by
  cases e : t.getLast? with
  | none => show x ≤ b - 1; omega
  | some z => exact h z (List.mem_of_getLast? e)
theorem pw_snoc {R : Int → Int → Prop} {s : List Int} {x : Int} : (s ++ [x]).Pairwise R ↔ s.Pairwise R ∧ ∀ y ∈ s, R y x := by
  rw [List.pairwise_append]
  constructor
  · rintro ⟨h1, _, h3⟩
    exact ⟨h1, fun y hy => h3 y hy x (by simp)⟩
  · rintro ⟨h1, h2⟩
    refine ⟨h1, List.pairwise_singleton _ _, fun y hy z hz => ?_⟩
    have : z = x := by simpa using hz
    rw [this]
    exact h2 y hy
theorem Digs.snoc {b : Int} {s : List Int} {x : Int} : Digs b (s ++ [x]) ↔ Digs b s ∧ 0 ≤ x ∧ x < b := by
  constructor
  · intro h
    exact ⟨fun y hy => h y (by simp [hy]), h x (by simp)⟩
  · rintro ⟨h1, h2⟩ y hy
    rcases List.mem_append.mp hy with h | h
    · exact h1 y h
    · have : y = x := by simpa using h
      rw [this]
      exact h2
theorem lows_snoc {b : Int} {ds s : List Int} {d x : Int} (hd : 0 ≤ d) (h : Lows b ds s) : Lows b (ds ++ [d]) (s ++ [x]) ↔ lowOf s ≤ x ∧ x ≤ highOf b s ds - d := by
  constructor
  · intro g
    have g1 := (pw_snoc.mp g.up).2
    have g2 := (Digs.snoc.mp g.lo).2
    have g3 := g.down
    have g4 := g.hi
    rw [highs_snoc h.len] at g3 g4
    have g5 := (pw_snoc.mp g3).2
    have g6 := (Digs.snoc.mp g4).2
    refine ⟨le_lowOf g2.1 g1, ?_⟩
    have := ge_highOf (b := b) (t := highs s ds) (x := x + d) g6.2 g5
    unfold highOf
    omega
  · rintro ⟨g1, g2⟩
    obtain ⟨a1, a2⟩ := lowOf_le h.up h.lo g1
    obtain ⟨c1, c2⟩ := highOf_ge (b := b) (t := highs s ds) (x := x + d) h.down h.hi (by unfold highOf at g2; omega)
    refine ⟨by simp [h.len], pw_snoc.mpr ⟨h.up, a2⟩, ?_, Digs.snoc.mpr ⟨h.lo, a1, by omega⟩, ?_⟩
    · rw [highs_snoc h.len]
      exact pw_snoc.mpr ⟨h.down, c2⟩
    · rw [highs_snoc h.len]
      exact Digs.snoc.mpr ⟨h.hi, by omega, c1⟩
/-- all lists of low figures for the first k differences -/
def lowsT (b : Int) (ds : List Int) : Nat → List (List Int)
  | 0 => [[]]
  | k + 1 => (lowsT b ds k).flatMap fun s => (rng (lowOf s) (highOf b s (ds.take k) - ds.getD k 0 + 1)).map fun x => s ++ [x]
theorem take_snoc {ds : List Int} {k : Nat} (h : k < ds.length) : ds.take (k + 1) = ds.take k ++ [ds.getD k 0] := by
  rw [List.take_add_one, List.getD_eq_getElem?_getD, List.getElem?_eq_getElem h]
  rfl
theorem lowsT_mem {b : Int} {ds : List Int} (hd : Digs b ds) : ∀ {k : Nat} {s : List Int}, k ≤ ds.length → (s ∈ lowsT b ds k ↔ Lows b (ds.take k) s)
  | 0, s, _ => by
    constructor
    · intro h
      have : s = [] := by simpa [lowsT] using h
      subst this
      exact ⟨by simp, List.Pairwise.nil, List.Pairwise.nil, (fun _ h => nomatch h), (fun _ h => nomatch h)⟩
    · intro h
      have : s = [] := List.length_eq_zero_iff.mp (by have := h.len; simpa using this)
      subst this
      simp [lowsT]
  | k + 1, s, hk => by
    have hdk : 0 ≤ ds.getD k 0 := by
      rw [List.getD_eq_getElem?_getD, List.getElem?_eq_getElem (by omega)]
      exact (hd _ (List.getElem_mem _)).1
    show s ∈ (lowsT b ds k).flatMap _ ↔ _
    rw [List.mem_flatMap, take_snoc (by omega)]
    constructor
    · rintro ⟨r, hr, hs⟩
      have hL := (lowsT_mem hd (by omega)).mp hr
      obtain ⟨x, hx, rfl⟩ := List.mem_map.mp hs
      have := rng_mem.mp hx
      exact (lows_snoc hdk hL).mpr ⟨this.1, by omega⟩
    · intro h
      rcases List.eq_nil_or_concat s with e | ⟨m, z, e⟩
      · have := h.len
        rw [e] at this
        simp at this
      · rw [List.concat_eq_append] at e
        subst e
        have hl : m.length = (ds.take k).length := by
          have := h.len
          simp at this ⊢
          omega
        have h3 := h.down
        have h4 := h.hi
        rw [highs_snoc hl] at h3 h4
        have hm : Lows b (ds.take k) m := ⟨hl, (pw_snoc.mp h.up).1, (pw_snoc.mp h3).1, (Digs.snoc.mp h.lo).1, (Digs.snoc.mp h4).1⟩
        have := (lows_snoc hdk hm).mp h
        exact ⟨m, (lowsT_mem hd (by omega)).mpr hm, List.mem_map.mpr ⟨z, rng_mem.mpr ⟨this.1, by omega⟩, rfl⟩⟩
theorem lowsT_nodup (b : Int) (ds : List Int) : ∀ k, (lowsT b ds k).Nodup
  | 0 => by
    show ([[]] : List (List Int)).Nodup
    simp
  | k + 1 => by
    refine nodup_flat (lowsT_nodup b ds k) (fun s _ => ?_) (fun s _ t _ x hx hy => ?_)
    · refine nodup_map (rng_nodup _ _) fun i _ j _ e => ?_
      have := (List.append_inj' e rfl).2
      simpa using this
    · obtain ⟨i, _, rfl⟩ := List.mem_map.mp hx
      obtain ⟨j, _, e⟩ := List.mem_map.mp hy
      exact (List.append_inj' e rfl).1.symm
theorem lowsT_len {b : Int} (h0 : 2 ≤ b) (hb : b ≤ 12) {ds : List Int} (hd : Digs b ds) {k : Nat} (hk : k ≤ ds.length) (hh : k ≤ 4) : (lowsT b ds k).length ≤ 20736 := by
  have hs : lowsT b ds k ⊆ ddl b.toNat k := fun s hs => by
    have h := (lowsT_mem hd hk).mp hs
    have := ddl_mem (b := b.toNat) (r := s) (by rw [Int.toNat_of_nonneg (by omega)]; exact h.lo)
    rw [h.len, List.length_take, show min k ds.length = k by omega] at this
    exact this
  have h1 := (lowsT_nodup b ds k).length_le_of_subset hs
  rw [ddl_len] at h1
  have h2 : b.toNat ^ k ≤ 12 ^ k := Nat.pow_le_pow_left (by omega) _
  have h3 : 12 ^ k ≤ 12 ^ 4 := Nat.pow_le_pow_right (by decide) (by omega)
  have h4 : (12 : Nat) ^ 4 = 20736 := by decide
  omega
/-- the rows of given low figures -/
def rowsOf (b : Int) (L : Nat) (ds s : List Int) : List (List Int) :=
  if L % 2 = 0 then [s ++ (highs s ds).reverse] else (rng (lowOf s) (highOf b s ds + 1)).map fun x => s ++ [x] ++ (highs s ds).reverse
def manyM (b : Int) (L : Nat) (ds : List Int) : Int := ((lowsT b ds ds.length).map fun s => ((rowsOf b L ds s).map trn).sum).sum
def rows (b : Int) (L : Nat) (ds : List Int) : List (List Int) := (lowsT b ds ds.length).flatMap fun s => rowsOf b L ds s
theorem many_rows (b : Int) (L : Nat) (ds : List Int) : manyM b L ds = ((rows b L ds).map trn).sum := by
  unfold manyM rows
  induction lowsT b ds ds.length with
  | nil => rfl
  | cons s l ih =>
    rw [List.map_cons, List.sum_cons, List.flatMap_cons, List.map_append, List.sum_append, ih]
/-- rows from the outside -/
theorem row_difs : ∀ (s ds mid : List Int), s.length = ds.length → mid.length ≤ 1 → difs (s ++ mid ++ (highs s ds).reverse) = ds
  | [], [], mid, _, hm => by
    have : mid = [] ∨ ∃ x, mid = [x] := by
      cases mid with
      | nil => exact .inl rfl
      | cons x r =>
        cases r with
        | nil => exact .inr ⟨x, rfl⟩
        | cons y r => simp at hm
    rcases this with rfl | ⟨x, rfl⟩
    · rfl
    · simp [difs, highs]
  | [], d :: ds, _, h, _ => by cases h
  | x :: s, [], _, h, _ => by cases h
  | x :: s, d :: ds, mid, h, hm => by
    have e : x :: s ++ mid ++ (highs (x :: s) (d :: ds)).reverse = x :: ((s ++ mid ++ (highs s ds).reverse) ++ [x + d]) := by
      show x :: s ++ mid ++ ((x + d) :: highs s ds).reverse = _
      rw [List.reverse_cons]
      simp
    rw [e, difs_peel, row_difs s ds mid (by simpa using h) hm]
    congr 1
    omega
theorem row_ex (r : List Int) : ∃ s mid, s.length = r.length / 2 ∧ mid.length = r.length % 2 ∧ r = s ++ mid ++ (highs s (difs r)).reverse := by
  induction r using ends_ind with
  | h0 => exact ⟨[], [], rfl, rfl, rfl⟩
  | h1 x => exact ⟨[], [x], by simp, by simp, by simp [highs, difs]⟩
  | h2 x m y ih =>
    obtain ⟨s, mid, h1, h2, h3⟩ := ih
    refine ⟨x :: s, mid, ?_, ?_, ?_⟩
    · simp
      omega
    · simp
      omega
    · rw [difs_peel]
      show _ = x :: s ++ mid ++ ((x + (y - x)) :: highs s (difs m)).reverse
      rw [List.reverse_cons, show x + (y - x) = y by omega]
      conv => lhs; rw [h3]
      simp
theorem rows_mem {b : Int} {L : Nat} {ds : List Int} (hl : ds.length = L / 2) (hF : Fall b ds) (r : List Int) :
    r ∈ rows b L ds ↔ (r.length = L ∧ r.Pairwise (· ≤ ·) ∧ Digs b r) ∧ difs r = ds := by
  have hmem : ∀ s, s ∈ lowsT b ds ds.length ↔ Lows b ds s := fun s => by
    rw [lowsT_mem hF.2 (Nat.le_refl _), List.take_length]
  -- what a row of low figures, a middle and high ones is
  have key : ∀ s mid, Lows b ds s → mid.length = L % 2 → (∀ x ∈ mid, lowOf s ≤ x ∧ x ≤ highOf b s ds) → ((s ++ mid ++ (highs s ds).reverse).length = L ∧ (s ++ mid ++ (highs s ds).reverse).Pairwise (· ≤ ·) ∧ Digs b (s ++ mid ++ (highs s ds).reverse)) := fun s mid h hm hx => by
    have hlen := highs_len h.len
    have cross : ∀ x ∈ s, ∀ y ∈ highs s ds, x ≤ y := by
      -- by the innermost pair
      intro x hxs y hy
      rcases List.eq_nil_or_concat s with e | ⟨m, z, e⟩
      · rw [e] at hxs
        cases hxs
      · rw [List.concat_eq_append] at e
        rcases List.eq_nil_or_concat ds with e2 | ⟨dm, d, e2⟩
        · have := h.len
          rw [e, e2] at this
          simp at this
        · rw [List.concat_eq_append] at e2
          have hml : m.length = dm.length := by
            have := h.len
            rw [e, e2] at this
            simpa using this
          have hd := (hF.2 d (by rw [e2]; simp)).1
          have e3 : highs s ds = highs m dm ++ [z + d] := by rw [e, e2, highs_snoc hml]
          have u := h.up
          have dn := h.down
          rw [e] at u hxs
          rw [e3] at dn hy
          have x1 : x ≤ z := by
            rcases List.mem_append.mp hxs with g | g
            · exact (pw_snoc.mp u).2 x g
            · have : x = z := by simpa using g
              omega
          have y1 : z + d ≤ y := by
            rcases List.mem_append.mp hy with g | g
            · exact (pw_snoc.mp dn).2 y g
            · have : y = z + d := by simpa using g
              omega
          omega
    refine ⟨?_, ?_, ?_⟩
    · simp [hlen, hm]
      have := h.len
      omega
    · refine List.pairwise_append.mpr ⟨List.pairwise_append.mpr ⟨h.up, ?_, ?_⟩, ?_, ?_⟩
      · cases mid with
        | nil => exact List.Pairwise.nil
        | cons x r =>
          cases r with
          | nil => exact List.pairwise_singleton _ _
          | cons y r =>
            simp at hm
            omega
      · intro x hxs y hy
        exact (lowOf_le h.up h.lo (hx y hy).1).2 x hxs
      · rw [List.pairwise_reverse]
        exact h.down
      · intro x hxs y hy
        have hy := List.mem_reverse.mp hy
        rcases List.mem_append.mp hxs with g | g
        · exact cross x g y hy
        · exact (highOf_ge h.down h.hi (hx x g).2).2 y hy
    · intro x hxs
      rcases List.mem_append.mp hxs with g | g
      · rcases List.mem_append.mp g with g | g
        · exact h.lo x g
        · have a1 := (lowOf_le h.up h.lo (hx x g).1).1
          have a2 := (highOf_ge h.down h.hi (hx x g).2).1
          exact ⟨a1, a2⟩
      · exact h.hi x (List.mem_reverse.mp g)
  unfold rows
  rw [List.mem_flatMap]
  constructor
  · rintro ⟨s, hs, hr⟩
    have h := (hmem s).mp hs
    unfold rowsOf at hr
    by_cases e : L % 2 = 0
    · rw [if_pos e] at hr
      have : r = s ++ [] ++ (highs s ds).reverse := by simpa using hr
      subst this
      exact ⟨key s [] h (by rw [e]; rfl) (fun _ h => nomatch h), row_difs s ds [] h.len (by simp)⟩
    · rw [if_neg e] at hr
      obtain ⟨x, hx, rfl⟩ := List.mem_map.mp hr
      have hx := rng_mem.mp hx
      refine ⟨key s [x] h (by simp; omega) (fun y hy => ?_), row_difs s ds [x] h.len (by simp)⟩
      have : y = x := by simpa using hy
      rw [this]
      exact ⟨hx.1, by omega⟩
  · rintro ⟨⟨h1, h2, h3⟩, h4⟩
    obtain ⟨s, mid, e1, e2, e3⟩ := row_ex r
    rw [h4] at e3
    rw [h1] at e1 e2
    have hlen : s.length = ds.length := by omega
    have q := h2
    have d3 := h3
    rw [e3] at q d3
    obtain ⟨q1, q2, q3⟩ := List.pairwise_append.mp q
    obtain ⟨q4, q5, q6⟩ := List.pairwise_append.mp q1
    rw [List.pairwise_reverse] at q2
    have hL : Lows b ds s := ⟨hlen, q4, q2, fun x hx => d3 x (by simp [hx]), fun x hx => d3 x (by simp [hx])⟩
    refine ⟨s, (hmem s).mpr hL, ?_⟩
    unfold rowsOf
    by_cases e : L % 2 = 0
    · rw [if_pos e]
      have : mid = [] := List.length_eq_zero_iff.mp (by omega)
      subst this
      simpa using e3
    · rw [if_neg e]
      obtain ⟨x, rfl⟩ : ∃ x, mid = [x] := by
        cases mid with
        | nil => simp at e2; omega
        | cons x m =>
          cases m with
          | nil => exact ⟨x, rfl⟩
          | cons y m => simp at e2; omega
      refine List.mem_map.mpr ⟨x, rng_mem.mpr ⟨le_lowOf (d3 x (by simp)).1 fun y hy => q6 y hy x (by simp), ?_⟩, e3.symm⟩
      have := ge_highOf (b := b) (t := highs s ds) (x := x) (d3 x (by simp)).2 fun y hy => q3 x (by simp) y (List.mem_reverse.mpr hy)
      unfold highOf
      omega
theorem rows_nodup {b : Int} {L : Nat} {ds : List Int} (hF : Fall b ds) : (rows b L ds).Nodup := by
  have hlen : ∀ s ∈ lowsT b ds ds.length, s.length = ds.length := fun s hs => by
    have := ((lowsT_mem hF.2 (Nat.le_refl _)).mp hs).len
    rw [List.take_length] at this
    exact this
  refine nodup_flat (lowsT_nodup b ds _) (fun s _ => ?_) (fun s hs t ht x hx hy => ?_)
  · unfold rowsOf
    split
    · simp
    · refine nodup_map (rng_nodup _ _) fun i _ j _ e => ?_
      have := (List.append_inj (List.append_inj' e rfl).1 rfl).2
      simpa using this
  · have pre : ∀ s x, s ∈ lowsT b ds ds.length → x ∈ rowsOf b L ds s → x.take ds.length = s := fun s x hs hx => by
      have hl := hlen s hs
      unfold rowsOf at hx
      split at hx
      · have : x = s ++ (highs s ds).reverse := by simpa using hx
        rw [this, ← hl, List.take_left]
      · obtain ⟨y, _, rfl⟩ := List.mem_map.mp hx
        rw [List.append_assoc, ← hl, List.take_left]
    rw [← pre s x hs hx, pre t x ht hy]
/-- how many numbers have such differences -/
theorem many_eq {b : Nat} (hb : 0 < b) {L : Nat} {ds : List Int} (hl : ds.length = L / 2) (hF : Fall b ds) :
    manyM b L ds = (((nums b L).countP fun n => decide (difs (srt (figs b L n)) = ds) : Nat) : Int) := by
  rw [many_rows, ← count_trn hb (L := L) (p := fun r => decide (difs r = ds)) (rows_nodup hF)]
  intro r
  rw [rows_mem hl hF, decide_eq_true_iff]
theorem many_step {b : Nat} (hb : 2 ≤ b) {L : Nat} {ds : List Int} (hl : ds.length = L / 2) (hF : Fall b ds) :
    manyM b L ds = (((nums b L).countP fun n => decide (stepM b L n = mk b L ds) : Nat) : Int) := by
  rw [many_eq (by omega) hl hF]
  congr 1
  refine countP_congr' fun n _ => ?_
  have h := (falls_mem (b := (b : Int)) (by omega)).mp (fall_of_step (b := (b : Int)) (by omega) L n)
  by_cases e : difs (srt (figs b L n)) = ds
  · rw [decide_eq_true e, decide_eq_true]
    rw [step_difs, e]
  · rw [decide_eq_false e, decide_eq_false]
    intro q
    rw [step_difs] at q
    exact e (mk_inj (by omega) (h.1.trans hl.symm) (by omega) h.2.2 hF.2 q)
end Sl
namespace Sl
/-! ### all rounds -/
open Classical in
/-- how many steps till a number comes again -/
noncomputable def perC (f : Int → Int) (r : Int) : Nat := if h : ∃ m, ∃ c, Course f r m c then h.choose else 0
theorem perC_eq {f : Int → Int} {r : Int} {m c : Nat} (h : Course f r m c) : perC f r = m := by
  have hx : ∃ m, ∃ c, Course f r m c := ⟨m, c, h⟩
  unfold perC
  rw [dif_pos hx]
  obtain ⟨c', h'⟩ := hx.choose_spec
  exact (h'.one h).1
noncomputable def rnd (f : Int → Int) (r : Int) : List Int := orb f r (perC f r)
theorem rnd_eq {f : Int → Int} {r : Int} {m c : Nat} (h : Course f r m c) : rnd f r = orb f r m := by
  unfold rnd
  rw [perC_eq h]
/-- the least ones of what some come to -/
structure LsM {α : Type} (f : Int → Int) (g : α → Int) (ss : List α) (ls : List Int) : Prop where
  nd : ls.Nodup
  mem : ∀ r, r ∈ ls ↔ ∃ s ∈ ss, IsLst f (g s) r
theorem LsM.nil {α : Type} {f : Int → Int} {g : α → Int} : LsM f g [] [] := ⟨by simp, fun r => by simp⟩
theorem LsM.add {α : Type} {f : Int → Int} {g : α → Int} {ss : List α} {ls : List Int} (h : LsM f g ss ls) {s : α} {r : Int} (hr : IsLst f (g s) r) : LsM f g (ss ++ [s]) (if r ∈ ls then ls else ls ++ [r]) := by
  have key : ∀ x, (∃ t ∈ ss ++ [s], IsLst f (g t) x) ↔ x ∈ ls ∨ x = r := fun x => by
    rw [h.mem]
    constructor
    · rintro ⟨t, ht, hx⟩
      rcases List.mem_append.mp ht with q | q
      · exact .inl ⟨t, q, hx⟩
      · have : t = s := by simpa using q
        rw [this] at hx
        exact .inr (hx.one hr)
    · rintro (⟨t, ht, hx⟩ | e)
      · exact ⟨t, by simp [ht], hx⟩
      · rw [e]
        exact ⟨s, by simp, hr⟩
  by_cases m : r ∈ ls
  · rw [if_pos m]
    refine ⟨h.nd, fun x => ?_⟩
    rw [key]
    constructor
    · exact .inl
    · rintro (q | q)
      · exact q
      · rw [q]
        exact m
  · rw [if_neg m]
    refine ⟨?_, fun x => ?_⟩
    · rw [List.nodup_append]
      refine ⟨h.nd, by simp, fun a ha c hc e => ?_⟩
      have : c = r := by simpa using hc
      rw [← this, ← e] at m
      exact m ha
    · rw [key, List.mem_append, List.mem_singleton]
theorem IsLst.img {f : Int → Int} {S : List Int} (hS : ∀ x, f x ∈ S) {n r : Int} (h : IsLst f n r) : r ∈ S := by
  obtain ⟨p, hp, hb⟩ := h.back
  obtain ⟨k, rfl⟩ : ∃ k, p = k + 1 := ⟨p - 1, by omega⟩
  rw [← hb]
  exact hS _
theorem LsM.sub {α : Type} {f : Int → Int} {g : α → Int} {ss : List α} {ls S : List Int} (hS : ∀ x, f x ∈ S) (h : LsM f g ss ls) : ls.length ≤ S.length :=
  h.nd.length_le_of_subset fun r hr => by
    obtain ⟨s, _, q⟩ := (h.mem r).mp hr
    exact q.img hS
/-- all the least ones of rounds, from the least on -/
structure Lsts (b : Int) (L : Nat) (rs : List Int) : Prop where
  up : rs.Pairwise (· < ·)
  mem : ∀ r, r ∈ rs ↔ ∃ n, (0 ≤ n ∧ n < pw b L) ∧ IsLst (stepM b L) n r
theorem lt_sort {ls : List Int} (h : ls.Nodup) : (srt ls).Pairwise (· < ·) := by
  have h1 := srt_sorted ls
  have h2 : (srt ls).Nodup := (srt_perm ls).nodup_iff.mpr h
  refine List.Pairwise.imp₂ ?_ h1 h2
  intro a c h3 h4
  omega
theorem Lsts.of {b : Int} (hb : 2 ≤ b) {L : Nat} {ls : List Int} (h : LsM (stepM b L) (Sl.mk b L) (falls b (L / 2)) ls) : Lsts b L (srt ls) := by
  refine ⟨lt_sort h.nd, fun r => ?_⟩
  rw [(srt_perm ls).mem_iff, h.mem]
  constructor
  · rintro ⟨s, hs, hr⟩
    obtain ⟨h1, h2⟩ := (falls_mem (by omega)).mp hs
    obtain ⟨q1, q2⟩ := made_step hb h1 h2
    refine ⟨_, q1, IsLst.up ?_⟩
    rw [q2]
    exact hr
  · rintro ⟨n, _, hr⟩
    refine ⟨_, fall_of_step (by omega) L n, ?_⟩
    rw [← step_difs]
    exact hr.down
theorem Lsts.ofN {b : Nat} {L : Nat} {ls : List Int} (h : LsM (stepM b L) (fun n => n) (nums b L) ls) : Lsts b L (srt ls) := by
  refine ⟨lt_sort h.nd, fun r => ?_⟩
  rw [(srt_perm ls).mem_iff, h.mem]
  constructor
  · rintro ⟨n, hn, hr⟩
    exact ⟨n, nums_mem.mp hn, hr⟩
  · rintro ⟨n, hn, hr⟩
    exact ⟨n, nums_mem.mpr hn, hr⟩
theorem Lsts.one {b : Int} {L : Nat} {rs ss : List Int} (h : Lsts b L rs) (g : Lsts b L ss) : rs = ss := by
  have n1 : rs.Nodup := h.up.imp fun q => Int.ne_of_lt q
  have n2 : ss.Nodup := g.up.imp fun q => Int.ne_of_lt q
  refine List.Perm.eq_of_pairwise (le := (· < ·)) (fun a c _ _ h1 h2 => absurd h1 (Int.not_lt.mpr (Int.le_of_lt h2))) h.up g.up ?_
  exact (List.perm_ext_iff_of_nodup n1 n2).mpr fun r => by rw [h.mem, g.mem]
theorem Lsts.self {b : Int} {L : Nat} {rs : List Int} (h : Lsts b L rs) {r : Int} (hr : r ∈ rs) : IsLst (stepM b L) r r := by
  obtain ⟨n, _, q⟩ := (h.mem r).mp hr
  exact q.self
/-- 0 is one by itself -/
theorem step_zero {b : Int} (hb : 2 ≤ b) (L : Nat) : stepM b L 0 = 0 := by
  have h := (step_alike hb L (Int.le_refl 0) (by omega)).2
  rw [Int.mul_zero] at h
  exact h
theorem lst_zero {b : Int} (hb : 2 ≤ b) (L : Nat) : IsLst (stepM b L) 0 0 := ⟨⟨0, rfl⟩, ⟨1, by omega, step_zero hb L⟩, fun j => by rw [it_fix (step_zero hb L)]; omega⟩
theorem rnd_zero {b : Int} (hb : 2 ≤ b) (L : Nat) : rnd (stepM b L) 0 = [0] := by
  have : Course (stepM b L) 0 1 0 := ⟨by omega, step_zero hb L, fun i j hi hj _ => by omega⟩
  rw [rnd_eq this]
  rfl
theorem Lsts.zero {b : Int} (hb : 2 ≤ b) {L : Nat} {rs : List Int} (h : Lsts b L rs) : ∃ rs', rs = 0 :: rs' := by
  have h0 : (0 : Int) ∈ rs := (h.mem 0).mpr ⟨0, ⟨by omega, pw_pos (by omega) L⟩, lst_zero hb L⟩
  have hp : ∀ r ∈ rs, 0 ≤ r := fun r hr => by
    obtain ⟨n, _, q⟩ := (h.mem r).mp hr
    obtain ⟨p, hp, hb2⟩ := q.back
    obtain ⟨k, rfl⟩ : ∃ k, p = k + 1 := ⟨p - 1, by omega⟩
    rw [← hb2]
    exact (step_bound hb L _).1
  cases rs with
  | nil => cases h0
  | cons r rs =>
    rcases List.mem_cons.mp h0 with e | h0
    · exact ⟨rs, by rw [e]⟩
    · have h1 := (List.pairwise_cons.mp h.up).1 0 h0
      have h2 := hp r (by simp)
      omega
end Sl
namespace Sl
theorem LsM.ex {α : Type} {f : Int → Int} {g : α → Int} (hf : ∀ n, ∃ r, IsLst f n r) (ss : List α) : ∃ ls, LsM f g ss ls := by
  have key : ∀ n, n ≤ ss.length → ∃ ls, LsM f g (ss.take n) ls := fun n => by
    induction n with
    | zero =>
      intro _
      exact ⟨[], by rw [List.take_zero]; exact LsM.nil⟩
    | succ n ih =>
      intro hn
      obtain ⟨ls, hl⟩ := ih (by omega)
      obtain ⟨r, hr⟩ := hf (g (ss[n]'(by omega)))
      refine ⟨if r ∈ ls then ls else ls ++ [r], ?_⟩
      rw [List.take_add_one, List.getElem?_eq_getElem (by omega)]
      exact hl.add hr
  obtain ⟨ls, hl⟩ := key ss.length (Nat.le_refl _)
  rw [List.take_length] at hl
  exact ⟨ls, hl⟩
theorem Lsts.ex {b l : Int} (h : 2 ≤ b ∧ b ≤ 12 ∧ 1 ≤ l ∧ l ≤ 8) : ∃ rs, Lsts b l.toNat rs := by
  obtain ⟨ls, hl⟩ := LsM.ex (f := stepM b l.toNat) (g := Sl.mk b l.toNat) (fun n => step_lst h n) (falls b (l.toNat / 2))
  exact ⟨_, Lsts.of h.1 hl⟩
theorem IsLst.of_course {f : Int → Int} {r : Int} {m : Nat} (h : Course f r m 0) (hm : lmin (orb f r m) = r) : IsLst f r r := by
  have g := h.lst
  unfold Sl.ring at g
  rw [List.drop_zero, hm] at g
  exact g
end Sl
namespace Sl
/-! ### how many numbers come to each round -/
open Classical in
noncomputable def lstC (f : Int → Int) (n : Int) : Int := if h : ∃ r, IsLst f n r then h.choose else 0
theorem lstC_eq {f : Int → Int} {n r : Int} (h : IsLst f n r) : lstC f n = r := by
  have hx : ∃ r, IsLst f n r := ⟨r, h⟩
  unfold lstC
  rw [dif_pos hx]
  exact hx.choose_spec.one h
theorem lstC_is {f : Int → Int} (hf : ∀ n, ∃ r, IsLst f n r) (n : Int) : IsLst f n (lstC f n) := by
  obtain ⟨r, hr⟩ := hf n
  rw [lstC_eq hr]
  exact hr
theorem lstC_step {f : Int → Int} (hf : ∀ n, ∃ r, IsLst f n r) (n : Int) : lstC f (f n) = lstC f n := lstC_eq (lstC_is hf n).down
/-- things gathered by a key -/
theorem count_key {α β : Type} [DecidableEq β] {κ : α → β} {p : α → Bool} {R : List β} (hR : R.Nodup) : ∀ (D : List α), (∀ x ∈ D, p x = true ↔ κ x ∈ R) →
    D.countP p = (R.map fun r => D.countP fun x => decide (κ x = r)).sum
  | [], _ => by
    have : ∀ R : List β, (R.map fun _ => 0).sum = 0 := fun R => by
      induction R with
      | nil => rfl
      | cons a R ih => rw [List.map_cons, List.sum_cons, ih]
    show 0 = _
    exact (this R).symm
  | l :: D, h => by
    have ih := count_key hR D fun x hx => h x (by simp [hx])
    have hl := h l (by simp)
    rw [List.countP_cons, ih]
    have e : (R.map fun r => (l :: D).countP fun x => decide (κ x = r)) = R.map fun r => (D.countP fun x => decide (κ x = r)) + (if decide (κ l = r) = true then 1 else 0) := by
      refine List.map_congr_left fun r _ => ?_
      rw [List.countP_cons]
    rw [e]
    have add : ∀ (g k : β → Nat) (R : List β), (R.map fun r => g r + k r).sum = (R.map g).sum + (R.map k).sum := fun g k R => by
      induction R with
      | nil => rfl
      | cons a R ih =>
        rw [List.map_cons, List.map_cons, List.map_cons, List.sum_cons, List.sum_cons, List.sum_cons, ih]
        omega
    rw [add]
    congr 1
    have one : ∀ R : List β, R.Nodup → (R.map fun r => if decide (κ l = r) = true then 1 else 0).sum = if κ l ∈ R then 1 else 0 := fun R => by
      induction R with
      | nil => intro _; simp
      | cons a R ih =>
        intro hn
        obtain ⟨n1, n2⟩ := List.nodup_cons.mp hn
        rw [List.map_cons, List.sum_cons, ih n2]
        by_cases e : κ l = a
        · rw [e, if_pos (by simp), if_neg n1, if_pos (by simp)]
        · rw [if_neg (by simpa using e)]
          by_cases m : κ l ∈ R
          · rw [if_pos m, if_pos (by simp [m])]
          · rw [if_neg m, if_neg (by simp [m, e])]
    rw [one R hR]
    by_cases g : p l = true
    · rw [if_pos g, if_pos (hl.mp g)]
    · rw [if_neg g, if_neg fun q => g (hl.mpr q)]
theorem nat_sum {β : Type} (g : β → Nat) : ∀ R : List β, (((R.map g).sum : Nat) : Int) = (R.map fun r => ((g r : Nat) : Int)).sum
  | [] => rfl
  | a :: R => by
    rw [List.map_cons, List.sum_cons, List.map_cons, List.sum_cons, Int.natCast_add, nat_sum g R]
/-- how many numbers come to the round of r -/
noncomputable def fallN (b L : Nat) (r : Int) : Nat := (nums b L).countP fun n => decide (lstC (stepM b L) n = r)
/-- the same by differences -/
noncomputable def fallS (b : Int) (L : Nat) (ss : List (List Int)) (r : Int) : Int := ((ss.filter fun s => decide (lstC (stepM b L) (mk b L s) = r)).map fun s => manyM b L s).sum
theorem fallS_nil (b : Int) (L : Nat) (r : Int) : fallS b L [] r = 0 := rfl
theorem fallS_snoc (b : Int) (L : Nat) (ss : List (List Int)) (s : List Int) (r : Int) : fallS b L (ss ++ [s]) r = fallS b L ss r + (if lstC (stepM b L) (mk b L s) = r then manyM b L s else 0) := by
  unfold fallS
  rw [List.filter_append, List.map_append, List.sum_append]
  congr 1
  by_cases h : lstC (stepM b L) (mk b L s) = r
  · rw [if_pos h]
    simp [h]
  · rw [if_neg h]
    simp [h]
theorem fall_eq {b : Nat} (hb : 2 ≤ b) (hb2 : b ≤ 12) {l : Int} (h1 : 1 ≤ l) (h2 : l ≤ 8) (r : Int) : fallS b l.toNat (falls b (l.toNat / 2)) r = (fallN b l.toNat r : Int) := by
  have hf : ∀ n, ∃ r, IsLst (stepM b l.toNat) n r := fun n => step_lst ⟨by omega, by omega, h1, h2⟩ n
  unfold fallN
  rw [count_key (κ := fun n => difs (srt (figs b l.toNat n))) (R := (falls b (l.toNat / 2)).filter fun s => decide (lstC (stepM b l.toNat) (mk b l.toNat s) = r)) ((falls_nodup _ _).filter _) (nums b l.toNat) fun n _ => ?_]
  · rw [nat_sum]
    unfold fallS
    congr 1
    refine List.map_congr_left fun s hs => ?_
    have hs := (falls_mem (b := (b : Int)) (by omega)).mp (List.mem_filter.mp hs).1
    exact many_eq (by omega) hs.1 hs.2
  · rw [List.mem_filter, decide_eq_true_iff, decide_eq_true_iff, ← step_difs, lstC_step hf]
    exact ⟨fun h => ⟨fall_of_step (by omega) _ _, h⟩, fun h => h.2⟩
theorem fall_sum {b : Nat} (hb : 2 ≤ b) (hb2 : b ≤ 12) {l : Int} (h1 : 1 ≤ l) (h2 : l ≤ 8) {rs : List Int} (hrs : Lsts b l.toNat rs) : (rs.map fun r => (fallN b l.toNat r : Int)).sum = pw b l.toNat := by
  have hf : ∀ n, ∃ r, IsLst (stepM b l.toNat) n r := fun n => step_lst ⟨by omega, by omega, h1, h2⟩ n
  have n1 : rs.Nodup := hrs.up.imp fun q => Int.ne_of_lt q
  have e := count_key (κ := fun n => lstC (stepM b l.toNat) n) (p := fun _ => true) n1 (nums b l.toNat) fun n hn => by
    simp only [true_iff]
    exact (hrs.mem _).mpr ⟨n, nums_mem.mp hn, lstC_is hf n⟩
  rw [List.countP_true, nums_len] at e
  rw [pw_nat, e, nat_sum]
  rfl
theorem fall_pos {b : Nat} (hb : 2 ≤ b) {L : Nat} {rs : List Int} (hrs : Lsts b L rs) {r : Int} (hr : r ∈ rs) : 0 < fallN b L r := by
  unfold fallN
  rw [List.countP_pos_iff]
  have hs := hrs.self hr
  obtain ⟨p, hp, hb2⟩ := hs.back
  obtain ⟨k, rfl⟩ : ∃ k, p = k + 1 := ⟨p - 1, by omega⟩
  refine ⟨r, nums_mem.mpr ?_, by rw [decide_eq_true_iff]; exact lstC_eq hs⟩
  rw [← hb2]
  exact step_bound (by omega) L _
/-! few rounds -/
def ddp : List Int → List Int
  | [] => []
  | x :: l => if l.contains x then ddp l else x :: ddp l
theorem ddp_mem : ∀ {l : List Int} {x : Int}, x ∈ l → x ∈ ddp l
  | [], _, h => nomatch h
  | y :: l, x, h => by
    unfold ddp
    by_cases q : l.contains y = true
    · rw [if_pos q]
      rcases List.mem_cons.mp h with e | h
      · rw [e]
        exact ddp_mem (by simpa using q)
      · exact ddp_mem h
    · rw [if_neg q]
      rcases List.mem_cons.mp h with e | h
      · rw [e]
        exact List.mem_cons_self
      · exact List.mem_cons_of_mem _ (ddp_mem h)
/-- what two steps make -/
def imgs2 (b L : Nat) : List Int := (falls b (L / 2)).map fun s => cstep b L (mk b L s)
theorem imgs2_lst {b : Nat} (hb : 2 ≤ b) {L : Nat} {rs : List Int} (hrs : Lsts b L rs) : rs.length ≤ (ddp (imgs2 b L)).length := by
  have n1 : rs.Nodup := hrs.up.imp fun q => Int.ne_of_lt q
  refine n1.length_le_of_subset fun r hr => ddp_mem ?_
  obtain ⟨p, hp, hb2⟩ := (hrs.self hr).back
  have e : it (stepM b L) (p + p) r = r := by rw [it_add, hb2, hb2]
  obtain ⟨k, hk⟩ : ∃ k, p + p = k + 2 := ⟨p + p - 2, by omega⟩
  rw [hk] at e
  have e2 : stepM b L (stepM b L (it (stepM b L) k r)) = r := e
  rw [step_difs b L (it (stepM b L) k r)] at e2
  unfold imgs2
  rw [cstep_eq (by omega)]
  exact List.mem_map.mpr ⟨_, fall_of_step (by omega) L _, e2⟩
theorem imgs1_lst {b : Nat} (hb : 2 ≤ b) {L : Nat} {rs : List Int} (hrs : Lsts b L rs) : rs.length ≤ (falls b (L / 2)).length := by
  have n1 : rs.Nodup := hrs.up.imp fun q => Int.ne_of_lt q
  have h := n1.length_le_of_subset (l₂ := (falls b (L / 2)).map (mk b L)) fun r hr => by
    obtain ⟨p, hp, hb2⟩ := (hrs.self hr).back
    obtain ⟨k, rfl⟩ : ∃ k, p = k + 1 := ⟨p - 1, by omega⟩
    have e2 : stepM b L (it (stepM b L) k r) = r := hb2
    rw [step_difs b L (it (stepM b L) k r)] at e2
    exact List.mem_map.mpr ⟨_, fall_of_step (by omega) L _, e2⟩
  rw [List.length_map] at h
  exact h
def fewB (b L : Nat) : Bool := decide ((falls b (L / 2)).length < 64) || decide ((ddp (imgs2 b L)).length < 64)
theorem few_of {b : Nat} (hb : 2 ≤ b) {L : Nat} {rs : List Int} (hrs : Lsts b L rs) (h : fewB b L = true) : rs.length < 64 := by
  unfold fewB at h
  rw [Bool.or_eq_true, decide_eq_true_iff, decide_eq_true_iff] at h
  rcases h with h | h
  · exact Nat.lt_of_le_of_lt (imgs1_lst hb hrs) h
  · exact Nat.lt_of_le_of_lt (imgs2_lst hb hrs) h
theorem few_chk : ([2, 3, 4, 5, 6, 7, 8, 9, 10, 11, 12].all fun b => [1, 2, 3, 4, 5].all fun L => fewB b L) = true ∧ ([6, 7, 8].all fun L => fewB 2 L) = true := ⟨by decide +kernel, by decide +kernel⟩
theorem few_rounds {b : Nat} (hb : 2 ≤ b) (hb2 : b ≤ 12) {L : Nat} (h1 : 1 ≤ L) (h2 : L ≤ 8) (h3 : L ≤ 5 ∨ b = 2) {rs : List Int} (hrs : Lsts b L rs) : rs.length < 64 := by
  refine few_of hb hrs ?_
  rcases h3 with h3 | h3
  · exact List.all_eq_true.mp (List.all_eq_true.mp few_chk.1 b (by simp; omega)) L (by simp; omega)
  · subst h3
    by_cases q : L ≤ 5
    · exact List.all_eq_true.mp (List.all_eq_true.mp few_chk.1 2 (by simp)) L (by simp; omega)
    · exact List.all_eq_true.mp few_chk.2 L (by simp; omega)
theorem small_two {b : Int} (hb : 2 ≤ b) {l : Int} (h2 : l ≤ 8) (h : pw b l.toNat ≤ 350) : l ≤ 5 ∨ b = 2 := by
  by_cases q : l ≤ 5
  · exact .inl q
  · right
    by_cases e : b = 2
    · exact e
    · have h3 := pw_mono (b := 3) (c := b) (by decide) (by omega) 6
      have h4 := pw_up (b := b) (by omega) (show 6 ≤ l.toNat by omega)
      have h5 : pw 3 6 = 729 := by decide
      omega
end Sl
namespace Sl
/-! ### whether differences make a number -/
/-- none rises above the one ahead -/
def sinkB : Int → List Int → Bool
  | _, [] => true
  | t, d :: ds => decide (d ≤ t) && sinkB d ds
theorem sink_snoc (t : Int) : ∀ (xs : List Int) (d : Int), sinkB t (xs ++ [d]) = (sinkB t xs && decide (d ≤ xs.getLast?.getD t))
  | [], d => by
    show (decide (d ≤ t) && true) = (true && decide (d ≤ t))
    rw [Bool.and_true, Bool.true_and]
  | x :: xs, d => by
    show (decide (x ≤ t) && sinkB x (xs ++ [d])) = (decide (x ≤ t) && sinkB x xs && _)
    rw [sink_snoc x xs d, Bool.and_assoc]
    congr 2
    rw [List.getLast?_cons]
    rfl
theorem sink_prefix {t : Int} : ∀ {xs ys : List Int}, sinkB t (xs ++ ys) = true → sinkB t xs = true
  | [], _, _ => rfl
  | x :: xs, ys, h => by
    have h' : (decide (x ≤ t) && sinkB x (xs ++ ys)) = true := h
    rw [Bool.and_eq_true] at h'
    show (decide (x ≤ t) && sinkB x xs) = true
    rw [Bool.and_eq_true]
    exact ⟨h'.1, sink_prefix h'.2⟩
theorem sink_fall {b : Int} : ∀ {t : Int} {ds : List Int}, t < b → (∀ d ∈ ds, 0 ≤ d) → sinkB t ds = true → Fall b ds ∧ ∀ d ∈ ds, d ≤ t
  | t, [], _, _, _ => ⟨⟨List.Pairwise.nil, fun _ h => nomatch h⟩, fun _ h => nomatch h⟩
  | t, d :: ds, ht, h0, h => by
    have h' : (decide (d ≤ t) && sinkB d ds) = true := h
    rw [Bool.and_eq_true] at h'
    have hd := of_decide_eq_true h'.1
    obtain ⟨⟨i1, i2⟩, i3⟩ := sink_fall (b := b) (t := d) (by omega) (fun x hx => h0 x (by simp [hx])) h'.2
    refine ⟨⟨List.pairwise_cons.mpr ⟨fun x hx => i3 x hx, i1⟩, fun x hx => ?_⟩, fun x hx => ?_⟩
    · rcases List.mem_cons.mp hx with e | hx
      · have := h0 d (by simp)
        omega
      · exact i2 x hx
    · rcases List.mem_cons.mp hx with e | hx
      · omega
      · have := i3 x hx
        omega
theorem fall_sink {b : Int} : ∀ {t : Int} {ds : List Int}, Fall b ds → (∀ d ∈ ds, d ≤ t) → sinkB t ds = true
  | _, [], _, _ => rfl
  | t, d :: ds, h, ht => by
    show (decide (d ≤ t) && sinkB d ds) = true
    rw [Bool.and_eq_true]
    obtain ⟨h1, h2⟩ := List.pairwise_cons.mp h.1
    exact ⟨decide_eq_true (ht d (by simp)), fall_sink (b := b) ⟨h2, fun x hx => h.2 x (by simp [hx])⟩ fun x hx => h1 x hx⟩
/-- adjacent ones, side by side -/
theorem sink_zip : ∀ (t : Int) (ds : List Int), (List.zipWith (fun x y => decide (y ≤ x)) (t :: ds) ds).all id = sinkB t ds
  | _, [] => rfl
  | t, d :: ds => by
    show (decide (d ≤ t) && (List.zipWith (fun x y => decide (y ≤ x)) (d :: ds) ds).all id) = _
    rw [sink_zip d ds]
    rfl
/-- differences that don't rise make n -/
def difB (b : Int) (L : Nat) (n : Int) : Bool := decide (rst b L (L / 2) 0 n = 0) && sinkB (b - 1) (grd b L (L / 2) 0 n)
def dif (b : Int) (L : Nat) (n : Int) : List Int := grd b L (L / 2) 0 n
theorem grd_nn {b : Int} (hb : 2 ≤ b) {L : Nat} : ∀ (k a : Nat) (n : Int), 0 ≤ n → 2 * (a + k) ≤ L → (∀ d ∈ grd b L k a n, 0 ≤ d) ∧ 0 ≤ rst b L k a n
  | 0, a, n, h, _ => ⟨(fun _ h => nomatch h), h⟩
  | k + 1, a, n, h, hk => by
    have hw := wgt_pos (b := b) hb (L := L) (a := a) (by omega)
    obtain ⟨i1, i2⟩ := grd_nn hb (L := L) k (a + 1) (n % wgt b L a) (Int.emod_nonneg _ (by omega)) (by omega)
    refine ⟨fun d hd => ?_, i2⟩
    have hd' : d ∈ (n / wgt b L a) :: grd b L k (a + 1) (n % wgt b L a) := hd
    rcases List.mem_cons.mp hd' with e | hd'
    · rw [e]
      exact Int.ediv_nonneg h (Int.le_of_lt hw)
    · exact i1 d hd'
theorem dif_ok {b : Int} (hb : 2 ≤ b) {L : Nat} {n : Int} (h0 : 0 ≤ n) (h : difB b L n = true) : (dif b L n).length = L / 2 ∧ Fall b (dif b L n) ∧ mk b L (dif b L n) = n := by
  unfold difB at h
  rw [Bool.and_eq_true, decide_eq_true_iff] at h
  obtain ⟨h1, h2⟩ := h
  have hl : (dif b L n).length = L / 2 := grd_len b L (L / 2) 0 n
  have hn := grd_nn hb (L := L) (L / 2) 0 n h0 (by omega)
  refine ⟨hl, (sink_fall (by omega) hn.1 h2).1, ?_⟩
  have g := grd_dot b L (L / 2) 0 n
  rw [h1, Int.add_zero] at g
  rw [← dot0 (by rw [hl]; omega)]
  exact g
theorem dif_full {b : Int} (hb : 2 ≤ b) {L : Nat} {ds : List Int} (hl : ds.length = L / 2) (hF : Fall b ds) : difB b L (mk b L ds) = true ∧ dif b L (mk b L ds) = ds := by
  have g := grd_full hb (L := L) ds 0 (by omega) hF.2
  rw [dot0 (by omega), hl] at g
  unfold difB dif
  rw [g.1, g.2]
  refine ⟨?_, rfl⟩
  rw [decide_eq_true rfl, Bool.true_and]
  exact fall_sink hF fun d hd => by
    have := hF.2 d hd
    omega
theorem dif_step {b : Int} (hb : 2 ≤ b) (L : Nat) (n : Int) : difB b L (stepM b L n) = true := by
  have h := (falls_mem (b := b) (by omega)).mp (fall_of_step (by omega) L n)
  rw [step_difs]
  exact (dif_full hb h.1 h.2).1
theorem grd_take (b : Int) (L : Nat) : ∀ (m k a : Nat) (n : Int), grd b L (k + m) a n = grd b L k a n ++ grd b L m (a + k) (rst b L k a n)
  | m, 0, a, n => by
    rw [Nat.zero_add]
    rfl
  | m, k + 1, a, n => by
    rw [show k + 1 + m = (k + m) + 1 by omega]
    show (n / wgt b L a) :: grd b L (k + m) (a + 1) (n % wgt b L a) = (n / wgt b L a) :: grd b L k (a + 1) (n % wgt b L a) ++ grd b L m (a + (k + 1)) (rst b L k (a + 1) (n % wgt b L a))
    rw [grd_take b L m k (a + 1), show a + 1 + k = a + (k + 1) by omega]
    rfl
theorem sink_part {b : Int} {L : Nat} {n : Int} {k : Nat} (hk : k ≤ L / 2) (h : sinkB (b - 1) (grd b L k 0 n) = false) : difB b L n = false := by
  unfold difB
  cases e : sinkB (b - 1) (grd b L (L / 2) 0 n) with
  | false => rw [Bool.and_false]
  | true =>
    rw [show L / 2 = k + (L / 2 - k) by omega, grd_take] at e
    rw [sink_prefix e] at h
    cases h
theorem wgt_le {b : Int} (h0 : 2 ≤ b) (h : b ≤ 12) {L a : Nat} (hL : L ≤ 8) : wgt b L a ≤ 429981696 := by
  have h1 := pw_le h0 h (k := L - 1 - a) (by omega)
  have h2 := pw_pos (b := b) (by omega) a
  unfold wgt
  omega
end Sl
namespace Sl
/-! ### of how many numbers a step makes one -/
def cmM (b : Int) (L : Nat) (n : Int) : Int := if difB b L n = true then manyM b L (dif b L n) else 0
theorem cmM_eq {b : Nat} (hb : 2 ≤ b) {L : Nat} {m : Int} (h0 : 0 ≤ m) : cmM b L m = (((nums b L).countP fun n => decide (stepM b L n = m) : Nat) : Int) := by
  unfold cmM
  by_cases h : difB b L m = true
  · rw [if_pos h]
    obtain ⟨d1, d2, d3⟩ := dif_ok (b := (b : Int)) (by omega) h0 h
    rw [many_step hb d1 d2, d3]
  · rw [if_neg h]
    have e : ((nums b L).countP fun n => decide (stepM b L n = m)) = 0 := by
      rw [List.countP_eq_zero]
      intro n _ hn
      have hn := of_decide_eq_true hn
      rw [← hn] at h
      exact h (dif_step (by omega) L n)
    rw [e]
    rfl
theorem cmM_zero {b : Nat} (hb : 2 ≤ b) {L : Nat} {m : Int} (h0 : 0 ≤ m) : decide (cmM b L m = 0) = !difB b L m := by
  by_cases h : difB b L m = true
  · rw [h]
    refine decide_eq_false ?_
    rw [cmM_eq hb h0]
    obtain ⟨d1, d2, d3⟩ := dif_ok (b := (b : Int)) (by omega) h0 h
    obtain ⟨q1, q2⟩ := made_step (b := (b : Int)) (by omega) d1 d2
    have : 0 < (nums b L).countP fun n => decide (stepM b L n = m) := by
      rw [List.countP_pos_iff]
      refine ⟨_, nums_mem.mpr q1, decide_eq_true ?_⟩
      rw [q2, d3]
    omega
  · have h' : difB b L m = false := by simpa using h
    rw [h']
    refine decide_eq_true ?_
    unfold cmM
    rw [if_neg h]
/-- all rows that rise or stay -/
def rowsA (b : Int) : Nat → List (List Int)
  | 0 => [[]]
  | k + 1 => (rowsA b k).flatMap fun r => (rng (lowOf r) b).map fun x => r ++ [x]
theorem rowsA_mem {b : Int} : ∀ {k : Nat} {r : List Int}, r ∈ rowsA b k ↔ r.length = k ∧ r.Pairwise (· ≤ ·) ∧ Digs b r
  | 0, r => by
    constructor
    · intro h
      have : r = [] := by simpa [rowsA] using h
      subst this
      exact ⟨rfl, List.Pairwise.nil, fun _ h => nomatch h⟩
    · rintro ⟨h, _⟩
      rw [List.length_eq_zero_iff.mp h]
      simp [rowsA]
  | k + 1, r => by
    show r ∈ (rowsA b k).flatMap _ ↔ _
    rw [List.mem_flatMap]
    constructor
    · rintro ⟨s, hs, hr⟩
      obtain ⟨h1, h2, h3⟩ := rowsA_mem.mp hs
      obtain ⟨x, hx, rfl⟩ := List.mem_map.mp hr
      obtain ⟨x1, x2⟩ := rng_mem.mp hx
      obtain ⟨a1, a2⟩ := lowOf_le h2 h3 x1
      exact ⟨by simp [h1], pw_snoc.mpr ⟨h2, a2⟩, Digs.snoc.mpr ⟨h3, a1, x2⟩⟩
    · rintro ⟨h1, h2, h3⟩
      rcases List.eq_nil_or_concat r with e | ⟨m, z, e⟩
      · rw [e] at h1
        cases h1
      · rw [List.concat_eq_append] at e
        subst e
        obtain ⟨p1, p2⟩ := pw_snoc.mp h2
        obtain ⟨q1, q2⟩ := Digs.snoc.mp h3
        exact ⟨m, rowsA_mem.mpr ⟨by simpa using h1, p1, q1⟩, List.mem_map.mpr ⟨z, rng_mem.mpr ⟨le_lowOf q2.1 p2, q2.2⟩, rfl⟩⟩
theorem rowsA_nodup (b : Int) : ∀ k, (rowsA b k).Nodup
  | 0 => by
    show ([[]] : List (List Int)).Nodup
    simp
  | k + 1 => by
    refine nodup_flat (rowsA_nodup b k) (fun s _ => ?_) (fun s _ t _ x hx hy => ?_)
    · refine nodup_map (rng_nodup _ _) fun i _ j _ e => ?_
      have := (List.append_inj' e rfl).2
      simpa using this
    · obtain ⟨i, _, rfl⟩ := List.mem_map.mp hx
      obtain ⟨j, _, e⟩ := List.mem_map.mp hy
      exact (List.append_inj' e rfl).1.symm
theorem rowsA_len {b : Int} (h0 : 2 ≤ b) (hb : b ≤ 12) {k : Nat} (hk : k ≤ 5) : (rowsA b k).length ≤ 248832 := by
  have hs : rowsA b k ⊆ ddl b.toNat k := fun s hs => by
    obtain ⟨h1, _, h3⟩ := rowsA_mem.mp hs
    have := ddl_mem (b := b.toNat) (r := s) (by rw [Int.toNat_of_nonneg (by omega)]; exact h3)
    rw [h1] at this
    exact this
  have h1 := (rowsA_nodup b k).length_le_of_subset hs
  rw [ddl_len] at h1
  have h2 : b.toNat ^ k ≤ 12 ^ k := Nat.pow_le_pow_left (by omega) _
  have h3 : 12 ^ k ≤ 12 ^ 5 := Nat.pow_le_pow_right (by decide) (by omega)
  have h4 : (12 : Nat) ^ 5 = 248832 := by decide
  omega
/-- the turns of the rows that make m, as far as they go -/
def dueS (b : Int) (m : Int) (rs : List (List Int)) : Int := ((rs.filter fun r => decide (wr b r.reverse - wr b r = m)).map trn).sum
theorem dueS_snoc (b m : Int) (rs : List (List Int)) (r : List Int) : dueS b m (rs ++ [r]) = if wr b r.reverse - wr b r = m then dueS b m rs + trn r else dueS b m rs := by
  unfold dueS
  rw [List.filter_append, List.map_append, List.sum_append]
  by_cases h : wr b r.reverse - wr b r = m
  · rw [if_pos h]
    simp [h]
  · rw [if_neg h]
    simp [h]
theorem due_eq {b : Nat} (hb : 2 ≤ b) {L : Nat} {m : Int} (h0 : 0 ≤ m) : dueS b m (rowsA b L) = cmM b L m := by
  rw [cmM_eq hb h0]
  unfold dueS
  rw [← count_trn (b := b) (by omega) (L := L) (p := fun r => decide (wr b r.reverse - wr b r = m)) ((rowsA_nodup _ _).filter _)]
  · congr 1
  · intro r
    rw [List.mem_filter, rowsA_mem]
end Sl
namespace Sl
/-! ### rounds found by single steps -/
theorem orb_add (f : Int → Int) (n : Int) (a : Nat) : ∀ b, orb f n (a + b) = orb f n a ++ orb f (it f a n) b
  | 0 => by
    show orb f n a = orb f n a ++ []
    rw [List.append_nil]
  | b + 1 => by
    rw [show a + (b + 1) = (a + b) + 1 by omega, orb_succ, orb_add f n a b, orb_succ, it_add, List.append_assoc]
theorem orb_take {f : Int → Int} {n : Int} {m j : Nat} (h : j ≤ m) : (orb f n m).take j = orb f n j ∧ (orb f n m).drop j = orb f (it f j n) (m - j) := by
  have e := orb_add f n j (m - j)
  rw [show j + (m - j) = m by omega] at e
  rw [e]
  constructor
  · exact List.take_left' (orb_len f n j)
  · exact List.drop_left' (orb_len f n j)
/-- a round from its least number on -/
theorem rot_ring {f : Int → Int} {n : Int} {m c : Nat} (h : Course f n m c) {j : Nat} (hj : (ring f n m c)[j]? = some (lmin (ring f n m c))) : (ring f n m c).drop j ++ (ring f n m c).take j = rnd f (lmin (ring f n m c)) := by
  have hlt := h.lt
  have hr := h.lst
  obtain ⟨x, hx⟩ : ∃ x, x = it f c n := ⟨_, rfl⟩
  obtain ⟨p, hp⟩ : ∃ p, p = m - c := ⟨_, rfl⟩
  have hring : ring f n m c = orb f x p := by rw [ring_eq, hx, hp]
  have hjp : j < p := by
    have := (List.getElem?_eq_some_iff.mp hj).1
    rw [hring, orb_len] at this
    exact this
  have hb : it f p x = x := by
    rw [hx, hp, ← it_add, show c + (m - c) = m by omega]
    exact h.back
  have hrj : it f j x = lmin (ring f n m c) := by
    rw [hring, orb_get hjp] at hj
    rw [hring]
    exact Option.some.inj hj
  generalize lmin (ring f n m c) = r at hr hrj
  -- the course of r is the round
  have hC : ∃ k, Course f r k 0 := by
    refine ⟨p, by omega, ?_, ?_⟩
    · show it f p r = r
      rw [← hrj, it_comm, hb]
    · intro a b ha hb2 e
      -- back to n
      have per := h.per
      have e2 : it f (c + (j + a) % (m - c)) n = it f (c + (j + b) % (m - c)) n := by
        rw [← per, ← per, it_add f c n (j + a), it_add f c n (j + b), ← hx, it_add f j x a, it_add f j x b, hrj, e]
      have l1 := Nat.mod_lt (j + a) (show 0 < m - c by omega)
      have l2 := Nat.mod_lt (j + b) (show 0 < m - c by omega)
      have e3 := h.apart _ _ (by omega) (by omega) e2
      have e4 : (j + a) % p = (j + b) % p := by rw [hp]; omega
      by_cases h1 : j + a < p
      · rw [Nat.mod_eq_of_lt h1] at e4
        by_cases h2 : j + b < p
        · rw [Nat.mod_eq_of_lt h2] at e4
          omega
        · rw [Nat.mod_eq_sub_mod (by omega), Nat.mod_eq_of_lt (by omega)] at e4
          omega
      · rw [Nat.mod_eq_sub_mod (show j + a ≥ p by omega), Nat.mod_eq_of_lt (show j + a - p < p by omega)] at e4
        by_cases h2 : j + b < p
        · rw [Nat.mod_eq_of_lt h2] at e4
          omega
        · rw [Nat.mod_eq_sub_mod (by omega), Nat.mod_eq_of_lt (by omega)] at e4
          omega
  obtain ⟨k, hk⟩ := hC
  have hkp := hr.ring h hk
  rw [rnd_eq hk, hkp, ← hp, hring]
  obtain ⟨t1, t2⟩ := orb_take (f := f) (n := x) (m := p) (j := j) (by omega)
  rw [t1, t2, hrj]
  have e := orb_add f r (p - j) j
  rw [show p - j + j = p by omega] at e
  rw [e]
  congr 2
  rw [← hrj, ← it_add, show j + (p - j) = p by omega, hb]
theorem ring_nodup {f : Int → Int} {n : Int} {m c : Nat} (h : Course f n m c) : (ring f n m c).Nodup := by
  unfold ring
  exact List.Nodup.sublist (List.drop_sublist _ _) h.apart.nodup
theorem first_at {l : List Int} {x : Int} (h : x ∈ l) (hn : l.Nodup) : ∃ j : Nat, l[j]? = some x ∧ ∀ (i : Nat) (k : Int), i < j → l[i]? = some k → k ≠ x := by
  obtain ⟨j, hj⟩ := List.getElem?_of_mem h
  refine ⟨j, hj, fun i k hi hk e => ?_⟩
  rw [List.nodup_iff_pairwise_ne] at hn
  have g1 := List.getElem?_eq_some_iff.mp hk
  have g2 := List.getElem?_eq_some_iff.mp hj
  have := List.pairwise_iff_getElem.mp hn i j g1.1 g2.1 hi
  rw [g1.2, g2.2] at this
  exact this e
/-! rounds sorted -/
def hd0 (l : List Int) : Int := l.headD 0
theorem head_le : ∀ {l m : List Int}, l ≠ [] → m ≠ [] → l ≤ m → hd0 l ≤ hd0 m
  | [], _, h, _, _ => absurd rfl h
  | _ :: _, [], _, h, _ => absurd rfl h
  | a :: l, b :: m, _, _, h => by
    rcases List.cons_le_cons_iff.mp h with q | q
    · exact Int.le_of_lt q
    · rw [show hd0 (a :: l) = a from rfl, show hd0 (b :: m) = b from rfl, q.1]
      exact Int.le_refl _
theorem sort_rings {α : Type} {f : Int → Int} {fs : List Int} {zs : List (α × List Int)} (hz : zs.map (·.2) = fs.map (rnd f)) (hh : ∀ r ∈ fs, hd0 (rnd f r) = r ∧ rnd f r ≠ []) :
    ((zs.mergeSort fun p q => decide (p.2 ≤ q.2)).map (·.2)) = (srt fs).map (rnd f) := by
  obtain ⟨bs, hbs⟩ : ∃ bs, bs = zs.mergeSort fun p q => decide (p.2 ≤ q.2) := ⟨_, rfl⟩
  rw [← hbs]
  have hp : bs.Perm zs := by rw [hbs]; exact List.mergeSort_perm _ _
  have hmem : ∀ b ∈ zs, ∃ r ∈ fs, b.2 = rnd f r := fun b hb => by
    have : b.2 ∈ zs.map (·.2) := List.mem_map.mpr ⟨b, hb, rfl⟩
    rw [hz] at this
    obtain ⟨r, hr, e⟩ := List.mem_map.mp this
    exact ⟨r, hr, e.symm⟩
  have e1 : bs.map (·.2) = (bs.map fun b => hd0 b.2).map (rnd f) := by
    rw [List.map_map]
    refine List.map_congr_left fun b hb => ?_
    obtain ⟨r, hr, e⟩ := hmem b (hp.mem_iff.mp hb)
    show b.2 = rnd f (hd0 b.2)
    rw [e, (hh r hr).1]
  have e2 : (bs.map fun b => hd0 b.2) = srt fs := by
    refine srt_of ?_ ?_
    · have g : (zs.map fun b => hd0 b.2) = fs := by
        have : (zs.map fun b => hd0 b.2) = (zs.map (·.2)).map hd0 := by rw [List.map_map]; rfl
        rw [this, hz, List.map_map]
        have h2 : fs.map (hd0 ∘ rnd f) = fs.map id := List.map_congr_left fun r hr => (hh r hr).1
        rw [h2, List.map_id]
      rw [← g]
      exact hp.map _
    · rw [List.pairwise_map]
      have hs : bs.Pairwise fun p q => decide (p.2 ≤ q.2) = true := by
        rw [hbs]
        exact List.pairwise_mergeSort (le := fun p q : α × List Int => decide (p.2 ≤ q.2)) (fun a b c h1 h2 => decide_eq_true (List.le_trans (of_decide_eq_true h1) (of_decide_eq_true h2))) (fun a b => by
          rcases List.le_total a.2 b.2 with q | q
          · simp [q]
          · simp [q]) zs
      refine List.Pairwise.imp_of_mem ?_ hs
      intro a b ha hb hab
      obtain ⟨r, hr, e⟩ := hmem a (hp.mem_iff.mp ha)
      obtain ⟨s, hs2, e'⟩ := hmem b (hp.mem_iff.mp hb)
      refine head_le ?_ ?_ (of_decide_eq_true hab)
      · rw [e]
        exact (hh r hr).2
      · rw [e']
        exact (hh s hs2).2
  rw [e1, e2]
end Sl
namespace Sl
/-! ### the rest of the last law -/
theorem fall_zero {b : Nat} (hb : 2 ≤ b) (hb2 : b ≤ 12) {l : Int} (h1 : 1 ≤ l) (h2 : l ≤ 8) : b ≤ fallN b l.toNat 0 := by
  unfold fallN
  rw [List.countP_eq_length_filter]
  have hr : 0 < rep b l.toNat := by
    obtain ⟨k, hk⟩ : ∃ k, l.toNat = k + 1 := ⟨l.toNat - 1, by omega⟩
    rw [hk]
    unfold rep
    have hd : Digs (b : Int) (List.replicate k 1) := fun x hx => by
      rw [(List.mem_replicate.mp hx).2]
      omega
    have := wr_bound (b := (b : Int)) (by omega) hd
    rw [List.replicate_succ', wr_append]
    have := Int.mul_nonneg this.1 (show (0 : Int) ≤ b by omega)
    omega
  have hn : ((List.range b).map fun (d : Nat) => rep b l.toNat * (d : Int)).Nodup := nodup_map List.nodup_range fun i _ j _ e => by
    have := Int.eq_of_mul_eq_mul_left (show rep b l.toNat ≠ 0 by omega) e
    omega
  have hs := hn.length_le_of_subset (l₂ := (nums b l.toNat).filter fun n => decide (lstC (stepM b l.toNat) n = 0)) fun n hm => by
    obtain ⟨d, hd, rfl⟩ := List.mem_map.mp hm
    have hdb := List.mem_range.mp hd
    have t := step_alike (b := (b : Int)) (by omega) l.toNat (d := (d : Int)) (by omega) (by omega)
    have e : (pw (b : Int) l.toNat - 1) / ((b : Int) - 1) = rep b l.toNat := by
      rw [← rep_eq l.toNat, Int.mul_ediv_cancel _ (by omega)]
    rw [e] at t
    refine List.mem_filter.mpr ⟨nums_mem.mpr t.1, decide_eq_true (lstC_eq (IsLst.up ?_))⟩
    rw [t.2]
    exact lst_zero (by omega) l.toNat
  rw [List.length_map, List.length_range] at hs
  exact hs
/-! steps as the kernel reckons them quickly -/
def ins (x : Nat) : List Nat → List Nat
  | [] => [x]
  | y :: l => cond (Nat.ble x y) (x :: y :: l) (y :: ins x l)
def sdig (b : Nat) : Nat → Nat → List Nat → List Nat
  | 0, _, acc => acc
  | k + 1, n, acc => sdig b k (n / b) (ins (n % b) acc)
def hor (b : Nat) : Nat → List Nat → Nat
  | a, [] => a
  | a, x :: l => hor b (a * b + x) l
def nstep (b L n : Nat) : Nat := (fun s => hor b 0 s.reverse - hor b 0 s) (sdig b L n [])
def toI (l : List Nat) : List Int := l.map fun (x : Nat) => (x : Int)
theorem ins_perm (x : Nat) : ∀ l, (ins x l).Perm (x :: l)
  | [] => List.Perm.refl _
  | y :: l => by
    show (cond (Nat.ble x y) (x :: y :: l) (y :: ins x l)).Perm _
    cases Nat.ble x y with
    | true => exact List.Perm.refl _
    | false => exact ((ins_perm x l).cons y).trans (List.Perm.swap x y l)
theorem ins_sorted (x : Nat) : ∀ {l : List Nat}, l.Pairwise (· ≤ ·) → (ins x l).Pairwise (· ≤ ·)
  | [], _ => List.pairwise_singleton _ _
  | y :: l, h => by
    obtain ⟨h1, h2⟩ := List.pairwise_cons.mp h
    show (cond (Nat.ble x y) (x :: y :: l) (y :: ins x l)).Pairwise _
    cases e : Nat.ble x y with
    | true =>
      have hxy : x ≤ y := Nat.le_of_ble_eq_true e
      refine List.pairwise_cons.mpr ⟨fun z hz => ?_, h⟩
      rcases List.mem_cons.mp hz with q | q
      · omega
      · have := h1 z q
        omega
    | false =>
      have hxy : ¬ x ≤ y := fun q => by rw [Nat.ble_eq_true_of_le q] at e; cases e
      refine List.pairwise_cons.mpr ⟨fun z hz => ?_, ins_sorted x h2⟩
      rcases List.mem_cons.mp ((ins_perm x l).mem_iff.mp hz) with q | q
      · omega
      · exact h1 z q
theorem sdig_ok (b : Nat) (hb : 0 < b) : ∀ (k n : Nat) (acc : List Nat), acc.Pairwise (· ≤ ·) → (sdig b k n acc).Pairwise (· ≤ ·) ∧ (toI (sdig b k n acc)).Perm (figs b k n ++ toI acc)
  | 0, n, acc, h => ⟨h, List.Perm.refl _⟩
  | k + 1, n, acc, h => by
    obtain ⟨i1, i2⟩ := sdig_ok b hb k (n / b) (ins (n % b) acc) (ins_sorted _ h)
    refine ⟨i1, ?_⟩
    show (toI (sdig b k (n / b) (ins (n % b) acc))).Perm _
    rw [figs_cons (by omega)]
    have e1 : ((n : Int) / (b : Int)) = ((n / b : Nat) : Int) := by omega
    have e2 : ((n : Int) % (b : Int)) = ((n % b : Nat) : Int) := by omega
    rw [e1, e2]
    refine i2.trans ?_
    have p1 : (toI (ins (n % b) acc)).Perm (((n % b : Nat) : Int) :: toI acc) := (ins_perm (n % b) acc).map _
    refine ((List.Perm.refl _).append p1).trans ?_
    exact List.perm_middle
theorem hor_wr (b : Nat) : ∀ (l : List Nat) (a : Nat), ((hor b a l : Nat) : Int) = (toI l).foldl (fun x d => x * (b : Int) + d) (a : Int)
  | [], a => rfl
  | x :: l, a => by
    show ((hor b (a * b + x) l : Nat) : Int) = (toI l).foldl (fun x d => x * (b : Int) + d) ((a : Int) * (b : Int) + (x : Int))
    rw [hor_wr b l (a * b + x)]
    congr 1
theorem nstep_eq {b : Nat} (hb : 2 ≤ b) (L n : Nat) : ((nstep b L n : Nat) : Int) = stepM b L n := by
  obtain ⟨h1, h2⟩ := sdig_ok b (by omega) L n [] List.Pairwise.nil
  have e : toI (sdig b L n []) = srt (figs b L n) := by
    refine srt_of ?_ ?_
    · have : figs (b : Int) L n ++ toI [] = figs b L n := List.append_nil _
      rw [this] at h2
      exact h2
    · unfold toI
      rw [List.pairwise_map]
      exact h1.imp fun q => by omega
  have e1 : ((hor b 0 (sdig b L n []) : Nat) : Int) = wr b (srt (figs b L n)) := by
    rw [hor_wr, e]
    rfl
  have e2 : ((hor b 0 (sdig b L n []).reverse : Nat) : Int) = wr b (srt (figs b L n)).reverse := by
    rw [hor_wr]
    have : toI (sdig b L n []).reverse = (toI (sdig b L n [])).reverse := List.map_reverse
    rw [this, e]
    rfl
  have hb0 := step_bound (b := (b : Int)) (by omega) L n
  unfold stepM at hb0 ⊢
  show ((hor b 0 (sdig b L n []).reverse - hor b 0 (sdig b L n []) : Nat) : Int) = _
  omega
/-! the same by recursors alone -/
noncomputable def force {α : Type} (n : Nat) (f : Nat → α) : α := Nat.rec (f 0) (fun k _ => f (Nat.succ k)) n
theorem force_eq {α : Type} (n : Nat) (f : Nat → α) : force n f = f n := by cases n <;> rfl
noncomputable def insr (x : Nat) (l : List Nat) : List Nat := List.rec (motive := fun _ => List Nat) [x] (fun y t r => cond (Nat.ble x y) (x :: y :: t) (y :: r)) l
theorem insr_eq (x : Nat) : ∀ l, insr x l = ins x l
  | [] => rfl
  | y :: l => by
    show cond (Nat.ble x y) (x :: y :: l) (y :: insr x l) = cond (Nat.ble x y) (x :: y :: l) (y :: ins x l)
    rw [insr_eq x l]
noncomputable def sdr (b k : Nat) : Nat → List Nat → List Nat := Nat.rec (motive := fun _ => Nat → List Nat → List Nat) (fun _ acc => acc) (fun _ r n acc => force (n % b) fun d => force (n / b) fun q => r q (insr d acc)) k
theorem sdr_eq (b : Nat) : ∀ k n acc, sdr b k n acc = sdig b k n acc
  | 0, _, _ => rfl
  | k + 1, n, acc => by
    show (force (n % b) fun d => force (n / b) fun q => sdr b k q (insr d acc)) = sdig b k (n / b) (ins (n % b) acc)
    rw [force_eq, force_eq, sdr_eq b k, insr_eq]
noncomputable def horr (b : Nat) (l : List Nat) : Nat → Nat := List.rec (motive := fun _ => Nat → Nat) (fun a => a) (fun x _ r a => force (a * b + x) r) l
theorem horr_eq (b : Nat) : ∀ l a, horr b l a = hor b a l
  | [], _ => rfl
  | x :: l, a => by
    show force (a * b + x) (horr b l) = hor b (a * b + x) l
    rw [force_eq, horr_eq b l]
noncomputable def revr (l : List Nat) : List Nat → List Nat := List.rec (motive := fun _ => List Nat → List Nat) (fun a => a) (fun x _ r a => r (x :: a)) l
theorem revr_eq : ∀ l a, revr l a = l.reverse ++ a
  | [], _ => rfl
  | x :: l, a => by
    show revr l (x :: a) = _
    rw [revr_eq l, List.reverse_cons, List.append_assoc]
    rfl
noncomputable def nst (b L n : Nat) : Nat := (fun s => horr b (revr s []) 0 - horr b s 0) (sdr b L n [])
theorem nst_eq (b L n : Nat) : nst b L n = nstep b L n := by
  show horr b (revr (sdr b L n []) []) 0 - horr b (sdr b L n []) 0 = hor b 0 (sdig b L n []).reverse - hor b 0 (sdig b L n [])
  rw [sdr_eq, horr_eq, horr_eq, revr_eq, List.append_nil]
noncomputable def memN (n : Nat) (l : List Nat) : Bool := List.rec (motive := fun _ => Bool) false (fun x _ r => cond (Nat.beq n x) true r) l
theorem memN_of (n : Nat) : ∀ l, memN n l = true → n ∈ l
  | [], h => nomatch h
  | x :: l, h => by
    have h' : cond (Nat.beq n x) true (memN n l) = true := h
    cases e : Nat.beq n x with
    | true =>
      rw [Nat.eq_of_beq_eq_true e]
      exact List.mem_cons_self
    | false =>
      rw [e] at h'
      exact List.mem_cons_of_mem _ (memN_of n l h')
/-- within k steps among qs -/
noncomputable def hitsN (b L : Nat) (qs : List Nat) (k : Nat) : Nat → Bool := Nat.rec (motive := fun _ => Nat → Bool) (fun n => memN n qs) (fun _ r n => cond (memN n qs) true (force (nst b L n) r)) k
theorem hitsN_of {b L : Nat} (hb : 2 ≤ b) {qs : List Nat} : ∀ (k n : Nat), hitsN b L qs k n = true → ∃ j, j ≤ k ∧ ∃ m ∈ qs, it (stepM b L) j (n : Int) = (m : Int)
  | 0, n, h => ⟨0, Nat.le_refl _, n, memN_of n qs h, rfl⟩
  | k + 1, n, h => by
    have h' : cond (memN n qs) true (force (nst b L n) (hitsN b L qs k)) = true := h
    cases e : memN n qs with
    | true => exact ⟨0, by omega, n, memN_of n qs e, rfl⟩
    | false =>
      rw [e, force_eq] at h'
      obtain ⟨j, hj, m, hm, q⟩ := hitsN_of hb k _ h'
      refine ⟨j + 1, by omega, m, hm, ?_⟩
      rw [it_one, ← nstep_eq hb, ← nst_eq, q]
/-- the check of a base and a length: what steps make comes soon among few that steps keep -/
noncomputable def tailB (b L : Nat) (qs : List Nat) (k : Nat) : Bool := decide (qs.length + k ≤ 98) && (qs.all fun n => force (nst b L n) fun m => memN m qs) && ((falls b (L / 2)).all fun s => force (mk b L s).toNat (hitsN b L qs k))
theorem in_few {f : Int → Int} {Q : List Int} (hQ : ∀ x ∈ Q, f x ∈ Q) {x : Int} (hx : x ∈ Q) : ∀ j, it f j x ∈ Q
  | 0 => hx
  | j + 1 => hQ _ (in_few hQ hx j)
theorem tail_few {f : Int → Int} {Q : List Int} (hQ : ∀ x ∈ Q, f x ∈ Q) {n : Int} {m c j : Nat} (h : Course f n m c) (hj : it f j n ∈ Q) : m ≤ j + Q.length := by
  by_cases hm : m ≤ j
  · omega
  · have hs : orb f (it f j n) (m - j) ⊆ Q := fun y hy => by
      obtain ⟨i, _, rfl⟩ := mem_orb.mp hy
      exact in_few hQ hj i
    have hn : (orb f (it f j n) (m - j)).Nodup := by
      rw [← (orb_take (f := f) (n := n) (m := m) (j := j) (by omega)).2]
      exact List.Nodup.sublist (List.drop_sublist _ _) h.apart.nodup
    have := hn.length_le_of_subset hs
    rw [orb_len] at this
    omega
theorem tail_of {b L : Nat} (hb : 2 ≤ b) {qs : List Nat} {k : Nat} (hB : tailB b L qs k = true) {n : Int} {m c : Nat} (h : Course (stepM b L) n m c) : m ≤ 99 := by
  unfold tailB at hB
  rw [Bool.and_eq_true, Bool.and_eq_true, decide_eq_true_iff] at hB
  obtain ⟨⟨h1, h2⟩, h3⟩ := hB
  have hQ : ∀ x ∈ toI qs, stepM b L x ∈ toI qs := fun x hx => by
    obtain ⟨y, hy, rfl⟩ := List.mem_map.mp hx
    have := List.all_eq_true.mp h2 y hy
    rw [force_eq] at this
    rw [← nstep_eq hb, ← nst_eq]
    exact List.mem_map.mpr ⟨_, memN_of _ _ this, rfl⟩
  have hF := (falls_mem (b := (b : Int)) (by omega)).mp (fall_of_step (b := (b : Int)) (by omega) L n)
  have h4 := List.all_eq_true.mp h3 _ (fall_of_step (b := (b : Int)) (by omega) L n)
  rw [force_eq] at h4
  obtain ⟨j, hj, y, hy, q⟩ := hitsN_of hb k _ h4
  rw [← step_difs] at q
  have hnn := (step_bound (b := (b : Int)) (by omega) L n).1
  rw [Int.toNat_of_nonneg hnn, ← it_one] at q
  have g := tail_few hQ h (j := j + 1) (by rw [q]; exact List.mem_map.mpr ⟨y, hy, rfl⟩)
  have hl : (toI qs).length = qs.length := List.length_map _
  omega
/-- few that steps make: no check is wanted -/
theorem tail_short {b L : Nat} (hb : 2 ≤ b) (hl : (falls b (L / 2)).length ≤ 98) {n : Int} {m c : Nat} (h : Course (stepM b L) n m c) : m ≤ 99 := by
  have g := tail_few (f := stepM b L) (Q := (falls b (L / 2)).map (mk b L)) (fun x _ => by
    rw [step_difs]
    exact List.mem_map.mpr ⟨_, fall_of_step (by omega) L x, rfl⟩) h (j := 1) (by
    show stepM b L n ∈ _
    rw [step_difs]
    exact List.mem_map.mpr ⟨_, fall_of_step (by omega) L n, rfl⟩)
  rw [List.length_map] at g
  omega
end Sl
namespace Sl
/-! ### no number goes far till it is in its round (printed by tails.py) -/
theorem tail_6_8 : tailB 6 8 [1276250, 1221860, 1285070, 1594015, 614260, 1566085, 1004055, 1329560, 1602835, 1275170, 1664965, 1617235, 1556185, 1321820, 1282910, 1674865, 933105, 1666045, 1611655, 1657225, 997395, 1322900, 1563925, 1283990, 1609495, 1548445, 988575, 1509535, 995235, 1259690, 895275, 940845, 335405, 1166390, 1612735, 1619395, 1610575, 1595095, 1601755, 1267430, 987495, 1174130, 1659385, 1399675, 0, 1331720, 1338380, 1663885, 1277330, 1230680, 996315, 1547365] 1 = true := by decide +kernel
theorem tail_7_8 : tailB 7 8 [4642668, 4623852, 4657368, 4504152, 3817068, 5546220, 4605036, 5449452, 5579736, 4638552, 4388568, 4661484, 3567084, 5487084, 2722668, 5602668, 5732952, 4235352, 5598552, 3663852, 3529452, 4508268, 5565036, 3783552, 2588268, 5737068, 4369752, 4489452, 5718252, 3682668, 4739436, 5613252, 2741484, 4470636, 3798252, 5478852, 5329752, 5617368, 5445336, 5583852, 1915884, 5755884, 3835884, 3701484, 1647084, 4758252, 5722368, 3802368, 1882368, 2823552, 5430636, 5464152, 5411820, 5714136, 4777068, 4941252, 5482968, 4791768, 4772952, 0, 3562968] 1 = true := by decide +kernel
theorem tail_8_6 : tailB 8 6 [218834, 200690, 254345, 217490, 214298, 139692, 217938, 209762, 144228, 143332, 69622, 260225, 246169, 180635, 177443, 205226, 255689, 181083, 172011, 252049, 251153, 185619, 250257, 218386, 213402, 209314, 176547, 111013, 102837, 37303, 254793, 253897, 222026, 217042, 214746, 180187, 208866, 106477, 229369, 0, 181531, 249809, 185171, 148316, 147420, 212954, 242529, 176099, 135156] 1 = true := by decide +kernel
theorem tail_8_7 : tailB 8 7 [2051721, 1453851, 2035593, 2014929, 1974105, 2010897, 1748754, 1486611, 2088513, 2047689, 1777482, 1744722, 1982169, 1679202, 1933281, 1146852, 1638378, 1376235, 1789578, 1781514, 2043657, 2002833, 1715994, 1191708, 1945377, 1675170, 1683234, 1380267, 2055753, 1752786, 1720026, 1711962, 1457883, 1195740, 1941345, 1417059, 1646442, 1384299, 1605618, 1343475, 1835001, 0, 1740690, 1978137, 1707930, 1445787, 1970073, 1413027, 1421091, 1118124, 1085364, 1785546, 2006865, 1449819] 1 = true := by decide +kernel
theorem tail_8_8 : tailB 8 8 [8949164, 8683444, 16157841, 14035154, 13962578, 14024402, 13438306, 16165009, 13998866, 16449097, 9244004, 13733146, 13667738, 11381027, 16383689, 15794009, 13740314, 13143466, 4489142, 14290122, 14031570, 14027986, 16172177, 16696449, 16689281, 14071442, 13926290, 16092433, 15830297, 13474594, 7179557, 16718401, 16027025, 16088849, 11894547, 11599707, 13704026, 16416393, 16099601, 13402018, 16096017, 14064274, 6589877, 16456265, 11930835, 13700442, 12845042, 14326410, 13991698, 11635995, 11308451, 16125137, 11606875, 16430729, 11905299, 9273124, 11373859, 7114149, 14060690, 14355530, 11865427, 11603291, 11534299, 0, 16358153, 11901715, 14297290, 16325449, 9575132] 2 = true := by decide +kernel
theorem tail_9_6 : tailB 9 6 [316192, 190896, 453296, 455888, 518896, 387696, 447392, 322096, 448688, 454592, 427088, 434288, 440192, 388992, 441488, 323392, 383088, 308992, 515584, 131200, 314896, 263696, 521488, 367392, 419888, 528688, 380496, 511696, 460496, 118096, 301792, 250592, 432992, 514288, 520192, 262400, 394896, 183696, 446096, 396192, 499888, 472384, 505792, 329296, 249296, 512992, 256496, 0, 381792] 1 = true := by decide +kernel
theorem tail_9_7 : tailB 9 7 [3975680, 4703680, 4041200, 4087280, 4566160, 4671280, 3503280, 3313200, 4559680, 2834320, 4494160, 4638160, 4697200, 3509760, 4625200, 3254160, 4146320, 3444240, 3844640, 4159280, 4769200, 4435120, 3903680, 4093760, 3562320, 3306720, 4507120, 2919280, 3385200, 3969200, 4631680, 4251520, 2978320, 4612240, 4710160, 4100240, 4690720, 3378720, 3424800, 4500640, 2847280, 4579120, 4015280, 3779120, 2781760, 2361920, 4172240, 4028240, 2716240, 4572640, 4152800, 3916640, 4106720, 0, 4165760, 3490320, 3910160, 4034720, 4080800, 3437760, 4047680, 3372240, 4684240, 3496800] 1 = true := by decide +kernel
theorem tail_9_8 : tailB 9 8 [36267536, 35859872, 36975872, 31071072, 26293936, 36397136, 26164336, 36793136, 32069136, 35795072, 36255872, 35730272, 35848208, 41688208, 30941472, 36964208, 25036672, 34667408, 34012208, 26282272, 41162608, 42396544, 37052336, 36911072, 37501472, 14880336, 36846272, 42225472, 25638736, 36922736, 37513136, 42904000, 42301936, 42343408, 35665472, 37029008, 31543536, 24446272, 41753008, 26217472, 41829472, 31596672, 36373808, 26099536, 21440336, 31531872, 42355072, 32122272, 21387200, 42945472, 41699872, 20312672, 34602608, 35193008, 32187072, 32133936, 37566272, 26689936, 26819536, 41097808, 42237136, 25509136, 40572208, 41517136, 41044672, 32145600, 37619408, 41635072, 41806144, 30888336, 37554608, 36137936, 31017936, 0, 41646736, 41570272, 20785136] 2 = true := by decide +kernel
theorem tail_10_6 : tailB 10 6 [831762, 431766, 875322, 809982, 760833, 853542, 873522, 209988, 642654, 820872, 864432, 629964, 653544, 620874, 980811, 640854, 842652, 870822, 862632, 420876, 869922, 541755, 970821, 650844, 719973, 310887, 330867, 763533, 532665, 552645, 981711, 649944, 985311, 754443, 851742, 871722, 863532, 539955, 960831, 996201, 761733, 850842, 651744, 752643, 829962, 849942, 841752, 881712, 942651, 974421, 759933, 840852, 860832, 872622, 661734, 762633, 774423, 110889, 972621, 976221, 409986, 429966, 899991, 854442, 530865, 979911, 631764, 983511, 319977, 740853, 0, 549945, 771723, 609984, 969921, 750843, 859932, 551745, 652644, 749943, 753543, 951741, 639954] 1 = true := by decide +kernel
theorem tail_10_7 : tailB 10 7 [7199973, 7629633, 8719722, 9869211, 7429653, 8729622, 9849411, 9759321, 9639531, 7439553, 7319763, 8529642, 9859311, 6539544, 9809811, 9659331, 8819712, 8849412, 7219773, 9519741, 9399951, 8649432, 9979101, 8439552, 9739521, 8319762, 9619731, 6299964, 5399955, 8539542, 8419752, 9749421, 6639534, 8299962, 9539541, 9419751, 7639533, 7549443, 6099984, 8759322, 7309863, 8639532, 8999991, 8519742, 8549442, 9879111, 8099982, 6319764, 7649433, 7529643, 8859312, 8619732, 5539545, 8409852, 9709821, 9649431, 9529641, 9439551, 6209874, 7539543, 8839512, 8869212, 8749422, 5549445, 8509842, 9839511, 9629631, 6549444, 9509841, 6429654, 7729623, 6219774, 0, 8609832, 8429652, 9729621, 6409854, 5109885, 6439554, 7619733, 8829612, 7409853, 8739522, 5209875, 6419754, 7509843, 7419753, 8629632, 8659332, 6309864, 7519743] 1 = true := by decide +kernel
theorem tail_10_8 : tailB 10 8 [65408544, 64308654, 85317642, 75526443, 53308665, 85535442, 87408522, 87626322, 84308652, 97108821, 65208744, 63317664, 31108887, 85408542, 41099886, 98599311, 65426544, 97544421, 85426542, 64326654, 86308632, 97308621, 86526432, 88808112, 87753222, 98717211, 86544432, 43208766, 66408534, 75508443, 87517422, 98535411, 87526422, 97608321, 96399531, 85099842, 97744221, 55308645, 98417511, 87608322, 83208762, 86108832, 87208722, 76199733, 82108872, 42108876, 63099864, 77544423, 64999944, 87299622, 97508421, 87644322, 62108874, 96417531, 64108854, 98499411, 77499423, 84108852, 75308643, 97526421, 85208742, 86326632, 86508432, 53108865, 53326665, 86408532, 77608323, 65517444, 87735222, 87508422, 75208743, 55526445, 85499442, 95299641, 83099862, 97426521, 76208733, 88626312, 65299644, 76426533, 83299662, 43299666, 97517421, 86608332, 0, 75408543, 76326633, 88535412, 54099855] 3 = true := by decide +kernel
theorem tail_11_6 : tailB 11 6 [1556700, 1525020, 1216340, 1743380, 1574960, 867400, 1205340, 1543280, 1392020, 1567700, 1527440, 1173660, 1511600, 1479920, 1509180, 1570120, 1383440, 675880, 1221180, 497780, 835720, 1572540, 1218760, 1495760, 864980, 1141980, 1394440, 1040660, 1024820, 1200500, 1538440, 1551860, 1737220, 1029660, 322100, 1727540, 1559120, 1766480, 513620, 1058920, 851560, 1750640, 705140, 1189500, 1396860, 351360, 1043080, 1734800, 689300, 819880, 1027240, 1157820, 849140, 1540860, 1187080, 1464080, 1317660, 1378600, 1171240, 1232180, 1493340, 1745800, 1729960, 1583540, 1412700, 1381020, 1202920, 1687280, 1056500, 1748220, 1610500, 1732380, 878400, 1362760, 1700700, 1554280, 1407860, 1376180, 1714120, 0, 673460, 1522600] 1 = true := by decide +kernel
theorem tail_11_7 : tailB 11 7 [18915480, 17466000, 15343320, 19281120, 15006720, 17304960, 15211320, 17261400, 18754440, 15357840, 17129400, 18900960, 15035760, 16807320, 18725400, 14860200, 17100360, 13264200, 13088640, 19223040, 15167760, 19295640, 19076520, 19237560, 15182280, 17290440, 10965960, 11507160, 17451480, 17334000, 17275920, 19266600, 18930000, 13045080, 16105080, 14699160, 17158440, 12913080, 17480520, 16631760, 13425240, 16792800, 15386880, 17495040, 13439760, 11141520, 16778280, 18886440, 10790400, 16939320, 17509560, 18578880, 19018440, 16821840, 18739920, 13235160, 13074120, 17143920, 0, 17114880, 12898560, 13249680, 14977680, 15196800, 16617240, 17436960, 15328800, 13220640, 15021240, 15372360, 18549840, 15153240, 14684640, 17172960, 17085840] 2 = true := by decide +kernel
theorem tail_11_8 : tailB 11 8 [188830820, 62339780, 184912620, 188133860, 186992720, 144005800, 190535820, 171061960, 124679560, 190736680, 181047660, 190388200, 142046700, 209714440, 188429100, 147723140, 210009680, 188777580, 149481380, 186349000, 145616420, 186523240, 188482340, 171209580, 186871720, 103098980, 188750960, 190589060, 179088560, 147522280, 145964900, 210358160, 101139880, 143831560, 147870760, 190710060, 147696520, 209365960, 189892100, 211847780, 209218340, 167197000, 182805900, 166848520, 187045960, 190562440, 192790160, 168807620, 188455720, 190240580, 190213960, 169156100, 170887720, 81813640, 167545480, 149307140, 212116400, 128196040, 147374660, 187019340, 167492240, 148045000, 60233060, 143657320, 147200420, 186818480, 190937540, 124331080, 140288460, 169129480, 186496620, 167022760, 171115200, 183154380, 210183920, 167344620, 210411400, 209888680, 169277100, 145911660, 184564140, 210062920, 105004840, 186174760, 126115940, 206318960, 207607720, 192615920, 0] 3 = true := by decide +kernel
theorem tail_12_6 : tailB 12 6 [2100604, 2078296, 2075128, 2055988, 2681162, 2614238, 2687498, 2937913, 2575958, 2620574, 2665190, 1602942, 2392467, 2395635, 2531342, 1536018, 1038356, 2122912, 1596606, 2509034, 2642882, 2654102, 2114992, 2658854, 2923657, 2953885, 810249, 2931577, 2847097, 2934745, 2033680, 2617406, 2119744, 2662022, 2386131, 2052820, 2595098, 1599774, 1558326, 2390883, 2684330, 2145220, 2655686, 2698718, 2116576, 2572790, 2159608, 1577466, 1620498, 1580634, 2011372, 1016048, 2636546, 1307911, 2097436, 768801, 2639714, 2142052, 1311079, 1853357, 1867745, 1869329, 2410023, 2674826, 2633378, 2135716, 2094268, 2550482, 1555158, 1057496, 2679578, 2389299, 2140468, 1850189, 2437083, 0, 1870913, 2384547, 1845437, 2429163, 2885377, 1890053, 2346267, 1617330] 2 = true := by decide +kernel
theorem tail_12_7 : tailB 12 7 [31435118, 32471582, 24944920, 31704530, 35519341, 31953350, 31476302, 31932758, 32450990, 32202170, 31994534, 31663346, 34939333, 21420113, 31891574, 28926183, 28677363, 28946775, 32222762, 34959925, 24903736, 28739139, 31642754, 28407951, 25421968, 31145114, 21689525, 28428543, 32263946, 21958937, 32430398, 32181578, 34669921, 25463152, 25214332, 28967367, 35539933, 28469727, 31622162, 32492174, 32160986, 34649329, 35498749, 31683938, 34421101, 28449135, 35436973, 34690513, 30108650, 22248941, 21150701, 28387359, 25152556, 21917753, 21668933, 18434130, 18185310, 34379917, 27910311, 31186298, 27951495, 28718547, 31973942, 29008551, 31912166, 34400509, 32512766, 31414526, 25193740, 32015126, 34918741, 32533358, 25483744, 35105785, 0, 28138539, 28987959, 28656771, 25173148, 24924328, 34898149, 25442560, 31165706, 27930903, 35167561, 28697955, 31455710] 2 = true := by decide +kernel
theorem tail_12_8 : tailB 12 8 [373993994, 384003686, 377036990, 344688531, 419070421, 344191155, 272470517, 305335360, 230437086, 387008666, 305870752, 312053368, 382970918, 302368396, 305373376, 188920039, 387314378, 386740970, 305832736, 380731010, 272738213, 376998974, 383468294, 383965670, 377496350, 425539741, 224465142, 387200330, 387276362, 380807042, 269522561, 371027030, 149566868, 387238346, 374299706, 367792370, 296128756, 309143428, 380233634, 305908768, 383008934, 385937882, 221230482, 267052973, 302598076, 152801528, 383506310, 383544326, 308608036, 373764314, 230934462, 299363416, 309067396, 227737818, 384041702, 382473542, 266517581, 368060066, 370529654, 227202426, 308837716, 308551012, 374261690, 230666766, 344726547, 344899203, 380463314, 302100700, 350909163, 347636487, 379468562, 350641467, 351368523, 289889116, 231202158, 386932634, 380539346, 344134131, 367524674, 383257622, 422802457, 340899471, 422572777, 272986901, 0] 6 = true := by decide +kernel
theorem tails {b L : Nat} (h1 : 2 ≤ b) (h2 : b ≤ 12) (h3 : 1 ≤ L) (h4 : L ≤ 8) {n : Int} {m c : Nat} (h : Course (stepM b L) n m c) : m ≤ 99 := by
  have hb : b = 2 ∨ b = 3 ∨ b = 4 ∨ b = 5 ∨ b = 6 ∨ b = 7 ∨ b = 8 ∨ b = 9 ∨ b = 10 ∨ b = 11 ∨ b = 12 := by omega
  have hL : L = 1 ∨ L = 2 ∨ L = 3 ∨ L = 4 ∨ L = 5 ∨ L = 6 ∨ L = 7 ∨ L = 8 := by omega
  rcases hb with rfl | rfl | rfl | rfl | rfl | rfl | rfl | rfl | rfl | rfl | rfl <;> rcases hL with rfl | rfl | rfl | rfl | rfl | rfl | rfl | rfl
  · exact tail_short h1 (by decide +kernel) h
  · exact tail_short h1 (by decide +kernel) h
  · exact tail_short h1 (by decide +kernel) h
  · exact tail_short h1 (by decide +kernel) h
  · exact tail_short h1 (by decide +kernel) h
  · exact tail_short h1 (by decide +kernel) h
  · exact tail_short h1 (by decide +kernel) h
  · exact tail_short h1 (by decide +kernel) h
  · exact tail_short h1 (by decide +kernel) h
  · exact tail_short h1 (by decide +kernel) h
  · exact tail_short h1 (by decide +kernel) h
  · exact tail_short h1 (by decide +kernel) h
  · exact tail_short h1 (by decide +kernel) h
  · exact tail_short h1 (by decide +kernel) h
  · exact tail_short h1 (by decide +kernel) h
  · exact tail_short h1 (by decide +kernel) h
  · exact tail_short h1 (by decide +kernel) h
  · exact tail_short h1 (by decide +kernel) h
  · exact tail_short h1 (by decide +kernel) h
  · exact tail_short h1 (by decide +kernel) h
  · exact tail_short h1 (by decide +kernel) h
  · exact tail_short h1 (by decide +kernel) h
  · exact tail_short h1 (by decide +kernel) h
  · exact tail_short h1 (by decide +kernel) h
  · exact tail_short h1 (by decide +kernel) h
  · exact tail_short h1 (by decide +kernel) h
  · exact tail_short h1 (by decide +kernel) h
  · exact tail_short h1 (by decide +kernel) h
  · exact tail_short h1 (by decide +kernel) h
  · exact tail_short h1 (by decide +kernel) h
  · exact tail_short h1 (by decide +kernel) h
  · exact tail_short h1 (by decide +kernel) h
  · exact tail_short h1 (by decide +kernel) h
  · exact tail_short h1 (by decide +kernel) h
  · exact tail_short h1 (by decide +kernel) h
  · exact tail_short h1 (by decide +kernel) h
  · exact tail_short h1 (by decide +kernel) h
  · exact tail_short h1 (by decide +kernel) h
  · exact tail_short h1 (by decide +kernel) h
  · exact tail_of h1 tail_6_8 h
  · exact tail_short h1 (by decide +kernel) h
  · exact tail_short h1 (by decide +kernel) h
  · exact tail_short h1 (by decide +kernel) h
  · exact tail_short h1 (by decide +kernel) h
  · exact tail_short h1 (by decide +kernel) h
  · exact tail_short h1 (by decide +kernel) h
  · exact tail_short h1 (by decide +kernel) h
  · exact tail_of h1 tail_7_8 h
  · exact tail_short h1 (by decide +kernel) h
  · exact tail_short h1 (by decide +kernel) h
  · exact tail_short h1 (by decide +kernel) h
  · exact tail_short h1 (by decide +kernel) h
  · exact tail_short h1 (by decide +kernel) h
  · exact tail_of h1 tail_8_6 h
  · exact tail_of h1 tail_8_7 h
  · exact tail_of h1 tail_8_8 h
  · exact tail_short h1 (by decide +kernel) h
  · exact tail_short h1 (by decide +kernel) h
  · exact tail_short h1 (by decide +kernel) h
  · exact tail_short h1 (by decide +kernel) h
  · exact tail_short h1 (by decide +kernel) h
  · exact tail_of h1 tail_9_6 h
  · exact tail_of h1 tail_9_7 h
  · exact tail_of h1 tail_9_8 h
  · exact tail_short h1 (by decide +kernel) h
  · exact tail_short h1 (by decide +kernel) h
  · exact tail_short h1 (by decide +kernel) h
  · exact tail_short h1 (by decide +kernel) h
  · exact tail_short h1 (by decide +kernel) h
  · exact tail_of h1 tail_10_6 h
  · exact tail_of h1 tail_10_7 h
  · exact tail_of h1 tail_10_8 h
  · exact tail_short h1 (by decide +kernel) h
  · exact tail_short h1 (by decide +kernel) h
  · exact tail_short h1 (by decide +kernel) h
  · exact tail_short h1 (by decide +kernel) h
  · exact tail_short h1 (by decide +kernel) h
  · exact tail_of h1 tail_11_6 h
  · exact tail_of h1 tail_11_7 h
  · exact tail_of h1 tail_11_8 h
  · exact tail_short h1 (by decide +kernel) h
  · exact tail_short h1 (by decide +kernel) h
  · exact tail_short h1 (by decide +kernel) h
  · exact tail_short h1 (by decide +kernel) h
  · exact tail_short h1 (by decide +kernel) h
  · exact tail_of h1 tail_12_6 h
  · exact tail_of h1 tail_12_7 h
  · exact tail_of h1 tail_12_8 h
end Sl
namespace Sl
open PySem PySem.Spec PyProof.Rows L2 Evl
/-! ### support: a def by its name, promises by shape, further evaluations -/
/-- the def named x stands in the module and keeps the promise sp -/
structure Fn (P : Program) (w : World) (K : PySem.W.Frag) (mg : Str → Option Value) (base : Heap) (k : Nat) (x : Str) (ps : List Str) (sp : Sp) : Prop where
  ex : ∃ (f : Addr) (fd : FuncData), mg x = some (.ref f) ∧ FnOk P w K mg base CX0 k f fd ps sp ∧ PySem.W.keepIn K (.ref f) = true ∧ Binds K fd ps []
theorem Fn.mono {P : Program} {w : World} {K : PySem.W.Frag} {mg : Str → Option Value} {base : Heap} {j k : Nat} {x : Str} {ps : List Str} {sp : Sp} (h : Fn P w K mg base j x ps sp) (hk : j ≤ k) : Fn P w K mg base k x ps sp := by
  obtain ⟨f, fd, a, b, c, d⟩ := h.ex
  exact ⟨f, fd, a, b.mono hk, c, d⟩
theorem pe_fn {X : Cx} {k : Nat} {x : Str} {ps : List Str} {sp : Sp} {e : Expr} {es : List Expr} {t : TA} {p pos : Pos} (h : Fn X.prog X.w X.K X.mg X.base k x ps sp) (hr : Room k X.A) (hg : Gl X x) (ha : PA X (e :: es) t)
    (hdb : (x == ("__debug__" : Str)) = false := by decide) (he : starEach (e :: es) X.env = (false, eval e X.env) :: starEach es X.env := by rfl) (hpl : (backTo pos (starEach es X.env)).any (·.1) = false := by rfl) :
    PE X (.Call (.Name x p) (e :: es) [] pos) (tCall sp [] E0 t) := by
  obtain ⟨f, fd, a, b, c, d⟩ := h.ex
  exact pe_call b hr hg a c d .nil pass0 ha hdb he hpl
/-! promises -/
def sp1 (pre : Int → Prop) (f : Int → V) : Sp := fun vs H Q _ => ∃ a, vs = [.int a] ∧ pre a ∧ RetV (f a) H Q
def sp2 (pre : Int → Int → Prop) (f : Int → Int → V) : Sp := fun vs H Q _ => ∃ a b, vs = [.int a, .int b] ∧ pre a b ∧ RetV (f a b) H Q
def sp3 (pre : Int → Int → Int → Prop) (f : Int → Int → Int → V) : Sp := fun vs H Q _ => ∃ a b c, vs = [.int a, .int b, .int c] ∧ pre a b c ∧ RetV (f a b c) H Q
def sp4 (pre : Int → Int → Int → Int → Prop) (f : Int → Int → Int → Int → V) : Sp := fun vs H Q _ => ∃ a b c d, vs = [.int a, .int b, .int c, .int d] ∧ pre a b c d ∧ RetV (f a b c d) H Q
def sp3L (pre : Int → Int → Int → Prop) (f : Int → Int → Int → List Int) : Sp := fun vs H Q _ => ∃ a b c, vs = [.int a, .int b, .int c] ∧ pre a b c ∧ RetL ((f a b c).map V.int) H Q
section
variable {K : PySem.W.Frag} {σ : L2.St} {H H' : Hp} {ta tb tc te tx : TE} {t u : TT} {x y z v : V} {r r' : R2}
theorem sp1_v {pre : Int → Prop} {f : Int → V} {a : Int} (h : pre a) : SpV (sp1 pre f) [.int a] H (f a) := fun _ _ _ q _ => ⟨a, rfl, h, q⟩
theorem sp2_v {pre : Int → Int → Prop} {f : Int → Int → V} {a b : Int} (h : pre a b) : SpV (sp2 pre f) [.int a, .int b] H (f a b) := fun _ _ _ q _ => ⟨a, b, rfl, h, q⟩
theorem sp3_v {pre : Int → Int → Int → Prop} {f : Int → Int → Int → V} {a b c : Int} (h : pre a b c) : SpV (sp3 pre f) [.int a, .int b, .int c] H (f a b c) := fun _ _ _ q _ => ⟨a, b, c, rfl, h, q⟩
theorem sp4_v {pre : Int → Int → Int → Int → Prop} {f : Int → Int → Int → Int → V} {a b c d : Int} (h : pre a b c d) : SpV (sp4 pre f) [.int a, .int b, .int c, .int d] H (f a b c d) := fun _ _ _ q _ => ⟨a, b, c, d, rfl, h, q⟩
theorem sp3L_l {pre : Int → Int → Int → Prop} {f : Int → Int → Int → List Int} {a b c : Int} (h : pre a b c) : SpL (sp3L pre f) [.int a, .int b, .int c] H ((f a b c).map V.int) := fun _ _ _ q _ => ⟨a, b, c, rfl, h, q⟩
/-! evaluations -/
/-- a two-sided comparison -/
theorem ev_chain {b1 : Bool} (ha : Ev ta σ H x) (hb : Ev tb σ H y) (h1 : RV r x y H (.bl b1)) (hc : Ev tc σ H z) {b2 : Bool} (h2 : RV r' y z H (.bl b2)) : Ev (tChain r r' ta tb tc) σ H (.bl (b1 && b2)) := fun H1 e Q q =>
  ha H1 e _ fun H2 e2 => hb H2 (e.trans e2) _ fun H3 e3 => h1 H3 ((e.trans e2).trans e3) _ fun H4 e4 => ⟨b1, rfl, by
    cases b1 with
    | true =>
      show tc σ H4 fun w' H5 => r' y w' H5 Q
      exact hc H4 (((e.trans e2).trans e3).trans e4) _ fun H5 e5 => h2 H5 ((((e.trans e2).trans e3).trans e4).trans e5) Q fun H6 e6 => q H6 ((((e2.trans e3).trans e4).trans e5).trans e6)
    | false =>
      show Q (.bl false) H4
      exact q H4 ((e2.trans e3).trans e4)⟩
/-- isinstance(an int, int), (an int, bool) -/
theorem rc_isi {c : V} {w0 u0 : Value} {b : Bool} {x : V} (k : ClsV c u0) (ty : ∀ H1, Ex H H1 → TyX K H1 x w0) (e : PySem.W.kitOne K w0 u0 = some b) : RC (rIsi K) [x, c] H (.bl b) := fun H1 e1 _ q => ⟨x, c, w0, u0, b, rfl, k, ty H1 e1, e, q H1 (Ex.refl H1)⟩
theorem rc_isi_int {i : Int} : RC (rIsi K) [.int i, .ty "int"] H (.bl true) := rc_isi (.ty "int") (fun _ _ => .base (.int i)) (kit_ty (by decide +kernel))
theorem rc_isi_bool {i : Int} : RC (rIsi K) [.int i, .ty "bool"] H (.bl false) := rc_isi (.ty "bool") (fun _ _ => .base (.int i)) (kit_ty (by decide +kernel))
end
end Sl
namespace Sl
open PySem PySem.Spec PyProof.Rows L2 Evl
/-- a module's int -/
def ConI (mg : Str → Option Value) (x : Str) (i : Int) : Prop := ∃ t, mg x = some (.int i t)
theorem pe_conI {X : Cx} {x : Str} {i : Int} {pos : Pos} (h : ConI X.mg x i) (hg : Gl X x) (hd : (x == ("__debug__" : Str)) = false := by decide) : PE X (.Name x pos) (tC (.int i)) := by
  obtain ⟨t, e⟩ := h
  exact pe_glob hg e ⟨t, rfl⟩ hd
section
variable {K : PySem.W.Frag} {σ : L2.St} {H H' : Hp} {ta tb tc te tx : TE} {t u : TT} {x y z v : V} {r r' : R2}
/-- sorted(a new list), sorted(a list) -/
theorem el_sortedN {ns : List Int} (h : EvL ta σ H (ns.map V.int)) : EvL (tCB (rSortedI K) (tCons ta tNil)) σ H ((srt ns).map V.int) := fun H1 e Q q =>
  h H1 e _ fun p H2 np e2 hp => ⟨p, ns, rfl, sq_of hp, fun ns' p' perm rising np' => by
    have e3 := srt_of perm rising
    subst e3
    exact q p' _ (fresh_back e2 np') (e2.trans (Ex.new np')) upd_same⟩
theorem el_sorted {ns : List Int} {a : Addr} (h : Ev ta σ H (.ref a)) (hs : SqL K H a (ns.map V.int)) : EvL (tCB (rSortedI K) (tCons ta tNil)) σ H ((srt ns).map V.int) := fun H1 e Q q =>
  h H1 e _ fun H2 e2 => ⟨a, ns, rfl, ex_l (e.trans e2) hs, fun ns' p' perm rising np' => by
    have e3 := srt_of perm rising
    subst e3
    exact q p' _ (fresh_back e2 np') (e2.trans (Ex.new np')) upd_same⟩
/-- xs[::-1] -/
theorem el_rev {a : Addr} {xs : List V} (h : Ev te σ H (.ref a)) (hs : SqL K H a xs) : EvL (tRevL K te) σ H xs.reverse := fun H1 e Q q =>
  h H1 e _ fun H2 e2 => ⟨a, xs, rfl, ex_l (e.trans e2) hs, fun p hp => q p _ (fresh_back e2 hp) (e2.trans (Ex.new hp)) upd_same⟩
/-- f(x, a new list) -/
theorem ev_call2L {sp : Sp} {E : XK} {xs : List V} (ha : Ev ta σ H x) (hb : EvL tb σ H xs) (hs : ∀ p H1, Ex H H1 → H1 p = some (.lst xs) → SpV sp [x, .ref p] H1 z) : Ev (tCall sp [] E (tCons ta (tCons tb tNil))) σ H z := fun H1 e Q q =>
  ha H1 e _ fun H2 e2 => hb H2 (e.trans e2) _ fun p H3 _ e3 hp => hs p H3 ((e.trans e2).trans e3) hp H3 (Ex.refl H3) Q (fun H4 e4 => q H4 ((e2.trans e3).trans e4)) E
theorem ex_set {H H1 H2 : Hp} {p : Addr} {o : HO} (e : Ex H H1) (e2 : Ex H1 H2) (np : H p = none) : Ex H (upd H2 p o) := Ex.mut (e.trans e2) np
theorem rv_isB {a b : Bool} : RV rIsB (.bl a) (.bl b) H (.bl (decide (a = b))) := fun H1 _ _ q => ⟨a, b, rfl, rfl, q H1 (Ex.refl H1)⟩
theorem rv_notB {a b : Bool} : RV rNotB (.bl a) (.bl b) H (.bl (!decide (a = b))) := fun H1 _ _ q => ⟨a, b, rfl, rfl, q H1 (Ex.refl H1)⟩
theorem rv_isN : RV (fun x y H Q => y = .non ∧ Q (.bl (decide (x = .non))) H) x .non H (.bl (decide (x = .non))) := fun H1 _ _ q => ⟨rfl, q H1 (Ex.refl H1)⟩
theorem rv_notN : RV (fun x y H Q => y = .non ∧ Q (.bl (!decide (x = .non))) H) x .non H (.bl (!decide (x = .non))) := fun H1 _ _ q => ⟨rfl, q H1 (Ex.refl H1)⟩
end
end Sl
namespace Sl
open PySem PySem.Spec PyProof.Rows L2 Evl
/-- an expression that comes to some value of which P holds -/
def EvP (te : TE) (σ : L2.St) (H : Hp) (P : V → Hp → Prop) : Prop := ∀ H1, Ex H H1 → ∀ Q : VK, (∀ v H2, Ex H1 H2 → P v H2 → Q v H2) → te σ H1 Q
/-- ranges with a step -/
theorem rgc {j c : Int} (hj : 0 ≤ j ∧ j ≤ 1000) (hc : 1 ≤ c ∧ c ≤ 1000) : ∃ n : Nat, RgC 0 j c n := by
  have hq : 0 ≤ (j - 0 - 1) / c + 1 ∨ ¬ 0 < j := by
    by_cases h : 0 < j
    · left
      have := Int.ediv_nonneg (a := j - 0 - 1) (b := c) (by omega) (by omega)
      omega
    · right
      exact h
  have hq2 : 0 < j → (j - 0 - 1) / c ≤ j := fun h => by
    have := Int.ediv_le_self (a := j - 0 - 1) c (by omega)
    omega
  refine ⟨(Builtin.Range.rangeSize 0 j c).toNat, by omega, by omega, ?_, ?_⟩
  · unfold Builtin.Range.small Builtin.Range.rangeSize
    rw [if_pos (show c > 0 by omega)]
    generalize (j - 0 - 1) / c = q at hq hq2
    simp only [Builtin.Range.rangeFitsLong, Bool.and_eq_true, Bool.or_eq_true, decide_eq_true_eq, beq_iff_eq, show c > 0 by omega, if_true]
    split <;> omega
  · unfold Builtin.Range.rangeSize
    rw [if_pos (show c > 0 by omega)]
    generalize (j - 0 - 1) / c = q at hq hq2
    split <;> omega
section
variable {K : PySem.W.Frag} {σ : L2.St} {H H' : Hp} {ta tb tc te tx tl : TE} {t u : TT} {x y z v : V} {r r' : R2} {D : Ends} {tu tw tz : TS} {g : TG}
theorem q_par {ta : TA} {i j : Nat} (h : EvA ta σ H [x, y]) (k : ∀ H1, Ex H H1 → tz D ((σ.set i (some x)).set j (some y)) H1) : tSeq (tPar i j ta) tz D σ H := h H (Ex.refl H) _ fun H1 e => ⟨x, y, rfl, k H1 e⟩
theorem s_par {ta : TA} {i j : Nat} (h : EvA ta σ H [x, y]) (k : ∀ H1, Ex H H1 → D.nx ((σ.set i (some x)).set j (some y)) H1) : tPar i j ta D σ H := h H (Ex.refl H) _ fun H1 e => ⟨x, y, rfl, k H1 e⟩
/-- a, b, c = what comes as a tuple of three -/
theorem q_asg3 {i j l : Nat} {R : V → V → V → Hp → Prop} (h : EvP te σ H fun v H2 => ∃ p a b c, v = .ref p ∧ H2 p = some (.tup [a, b, c]) ∧ R a b c H2)
    (k : ∀ a b c H1, Ex H H1 → R a b c H1 → tz D (((σ.set i (some a)).set j (some b)).set l (some c)) H1) : tSeq (tAsg te (gTup K 3 (gCons (gName i) (gCons (gName j) (gCons (gName l) gNil))))) tz D σ H :=
  h H (Ex.refl H) _ fun v H1 e ⟨p, a, b, c, ev, hp, hR⟩ => ⟨p, [a, b, c], ev, st_of hp, rfl, a, _, rfl, b, _, rfl, c, _, rfl, rfl, k a b c H1 e hR⟩
theorem q_asg2 {i j : Nat} {R : V → V → Hp → Prop} (h : EvP te σ H fun v H2 => ∃ p a b, v = .ref p ∧ H2 p = some (.tup [a, b]) ∧ R a b H2)
    (k : ∀ a b H1, Ex H H1 → R a b H1 → tz D ((σ.set i (some a)).set j (some b)) H1) : tSeq (tAsg te (gTup K 2 (gCons (gName i) (gCons (gName j) gNil)))) tz D σ H :=
  h H (Ex.refl H) _ fun v H1 e ⟨p, a, b, ev, hp, hR⟩ => ⟨p, [a, b], ev, st_of hp, rfl, a, _, rfl, b, _, rfl, rfl, k a b H1 e hR⟩
theorem q_asgU2 {i j : Nat} (h : EvU te σ H [x, y]) (k : ∀ H1, Ex H H1 → tz D ((σ.set i (some x)).set j (some y)) H1) : tSeq (tAsg te (gTup K 2 (gCons (gName i) (gCons (gName j) gNil)))) tz D σ H :=
  h H (Ex.refl H) _ fun p H1 _ e hp => ⟨p, _, rfl, st_of hp, rfl, x, _, rfl, y, _, rfl, rfl, k H1 e⟩
/-- [..] * n -/
theorem el_rep {xs : List V} {n : Int} (ha : EvL ta σ H xs) (hb : Ev tb σ H (.int n)) (hn : 0 ≤ n ∧ n ≤ 1000) (hx : xs.length ≤ 10) : EvL (tOp rRep ta tb) σ H (List.replicate n.toNat xs).flatten := fun H1 e Q q =>
  ha H1 e _ fun p H2 np e2 hp => hb H2 (e.trans e2) _ fun H3 e3 => ⟨p, n, xs, rfl, rfl, e3 p _ hp, by omega, by omega, by
    have h1 : xs.length * n.toNat ≤ 10 * 1000 := Nat.mul_le_mul hx (by omega)
    exact Nat.le_trans h1 (by decide), fun p' hp' => q p' _ (fresh_back (e2.trans e3) hp') ((e2.trans e3).trans (Ex.new hp')) upd_same⟩
/-- for x in range(0, j, c) -/
theorem q_forR3 {ta : TA} {j : Nat} {m c : Int} (h : EvA ta σ H [.int 0, .int m, .int c]) (hm : 0 ≤ m ∧ m ≤ 1000) (hc : 1 ≤ c ∧ c ≤ 1000) (Pv : L2.St → Hp → Prop) (h0 : ∀ H1, Ex H H1 → Pv σ H1)
    (hs : ∀ (i : Int) σ' H', 0 ≤ i → Pv σ' H' → tu { D with nx := Pv, ct := Pv, bk := tz D } (σ'.set j (some (.int i))) H') (hd : ∀ σ' H', Pv σ' H' → tz D σ' H') : tSeq (tFor (iRng3 ta) (gName j) tu) tz D σ H := by
  obtain ⟨n, hn⟩ := rgc hm hc
  refine h H (Ex.refl H) _ fun H1 e => ⟨0, m, c, n, rfl, hn, for_rangeC (lo := 0) (c := c) (n := n) (fun _ => Pv) (h0 H1 e) (fun i σ' H' hi p => ?_) hd⟩
  refine hs _ σ' H' ?_ p
  have := Int.mul_nonneg (Int.natCast_nonneg i) (show 0 ≤ c by omega)
  omega
/-- for x in (a, b, ..): the word speaks of the slots alone, the heap grows -/
theorem q_forNT {xs : List V} {j : Nat} (h : EvU tl σ H xs) (Pv : Nat → L2.St → Prop) (h0 : Pv 0 σ)
    (hs : ∀ Hp, Ex H Hp → ∀ i x σ' H', xs[i]? = some x → Ex Hp H' → Pv i σ' → tu { D with nx := fun σ2 H2 => Ex Hp H2 ∧ Pv (i + 1) σ2, ct := fun σ2 H2 => Ex Hp H2 ∧ Pv (i + 1) σ2, bk := tz D } (σ'.set j (some x)) H')
    (hd : ∀ σ' H', Ex H H' → Pv xs.length σ' → tz D σ' H') : tSeq (tFor (iTup K tl) (gName j) tu) tz D σ H :=
  h H (Ex.refl H) _ fun p H1 _ e hp => ⟨p, rfl, ⟨xs, st_of hp⟩, for_tup (fun i σ' H' => Ex H1 H' ∧ Pv i σ') ⟨Ex.refl H1, h0⟩ (fun i σ' H' _ q => st_of (q.1 p _ hp)) (fun i x σ' H' hi q => hs H1 e i x σ' H' hi q.1 q.2) (fun σ' H' q => hd σ' H' (e.trans q.1) q.2)⟩
theorem s_forNT {xs : List V} {j : Nat} (h : EvU tl σ H xs) (Pv : Nat → L2.St → Prop) (h0 : Pv 0 σ)
    (hs : ∀ Hp, Ex H Hp → ∀ i x σ' H', xs[i]? = some x → Ex Hp H' → Pv i σ' → tu { D with nx := fun σ2 H2 => Ex Hp H2 ∧ Pv (i + 1) σ2, ct := fun σ2 H2 => Ex Hp H2 ∧ Pv (i + 1) σ2, bk := D.nx } (σ'.set j (some x)) H')
    (hd : ∀ σ' H', Ex H H' → Pv xs.length σ' → D.nx σ' H') : tFor (iTup K tl) (gName j) tu D σ H :=
  h H (Ex.refl H) _ fun p H1 _ e hp => ⟨p, rfl, ⟨xs, st_of hp⟩, for_tup (fun i σ' H' => Ex H1 H' ∧ Pv i σ') ⟨Ex.refl H1, h0⟩ (fun i σ' H' _ q => st_of (q.1 p _ hp)) (fun i x σ' H' hi q => hs H1 e i x σ' H' hi q.1 q.2) (fun σ' H' q => hd σ' H' (e.trans q.1) q.2)⟩
end
end Sl
namespace Sl
open PySem PySem.Spec PyProof.Rows L2 Evl
/-- at most so many bits -/
def Bt (z : Int) : Prop := ∃ n : Nat, n ≤ 1048577 ∧ z.natAbs < 2 ^ n
theorem Bt.of {z : Int} (h : Builtin.Int.intBits z ≤ 1048576) : Bt z := by
  refine ⟨Builtin.Int.intBits z, by omega, ?_⟩
  unfold Builtin.Int.intBits
  split
  · rename_i e
    have : z = 0 := by simpa using e
    subst this
    decide
  · exact Nat.lt_log2_self
theorem Bt.zero : Bt 0 := ⟨0, by decide, by decide⟩
theorem Bt.add {z k : Int} (h : Bt z) (hk : k.natAbs ≤ 1000000) : ∃ n : Nat, n ≤ 1048598 ∧ (z + k).natAbs < 2 ^ n := by
  obtain ⟨n, h1, h2⟩ := h
  refine ⟨n + 21, by omega, ?_⟩
  rw [Nat.pow_add]
  have hp : 0 < 2 ^ n := Nat.two_pow_pos n
  generalize 2 ^ n = P at h2 hp
  have : (2 : Nat) ^ 21 = 2097152 := by decide
  rw [this]
  omega
theorem mulx_of {x y : Int} (hx : ∃ n : Nat, n ≤ 1048598 ∧ x.natAbs < 2 ^ n) (hy : ∃ n : Nat, n ≤ 1048598 ∧ y.natAbs < 2 ^ n) : CMulX x y := by
  obtain ⟨n, h1, h2⟩ := hx
  obtain ⟨m, h3, h4⟩ := hy
  exact mulx_ok h2 h4 (by omega)
/-- the law's promise -/
def SpLaw (K : PySem.W.Frag) : Sp := fun vs H Q _ => ∃ (a : Addr) (ns : List Int), vs = [.ref a] ∧ SqL K H a (ns.map V.int) ∧ ns.length ≤ 63 ∧ (∀ z ∈ ns, Bt z) ∧ ∀ H', Q (.bl true) H'
theorem cut_script {xs : List V} (h : xs.length ≤ 63) : cutV xs none (some 63) = xs := by
  unfold cutV
  rw [HT.sIx_none, show HT.sIx xs.length xs.length (some 63) = min 63 xs.length from HT.sIx_nat xs.length xs.length 63]
  rw [show min 63 xs.length - 0 = xs.length by omega]
  exact List.take_length
end Sl
namespace Sl
open PySem PySem.Spec PyProof.Rows L2 Evl
/-! ### dicts with int keys -/
theorem valV_none {kvs : List (Key × V)} {k : Key} (h : ∀ kv ∈ kvs, kv.1 ≠ k) : valV kvs k = none := by
  unfold valV
  rw [List.find?_eq_none.mpr fun x hx => by simpa using h x hx]
  rfl
theorem valV_mem {kvs : List (Key × V)} {k : Key} {v : V} (h : (k, v) ∈ kvs) (u : ∀ v', (k, v') ∈ kvs → v' = v) : valV kvs k = some v := by
  unfold valV
  cases e : kvs.find? fun kv => decide (kv.1 = k) with
  | none =>
    have := List.find?_eq_none.mp e (k, v) h
    simp at this
  | some x =>
    have h1 := List.find?_some e
    have h2 := List.mem_of_find?_eq_some e
    have h3 : x.1 = k := by simpa using h1
    obtain ⟨a, c⟩ := x
    have h3' : a = k := h3
    subst h3'
    show some c = some v
    rw [u c h2]
theorem valV_inv {kvs : List (Key × V)} {k : Key} {v : V} (h : valV kvs k = some v) : (k, v) ∈ kvs := by
  unfold valV at h
  cases e : kvs.find? fun kv => decide (kv.1 = k) with
  | none =>
    rw [e] at h
    cases h
  | some x =>
    rw [e] at h
    have h1 := List.find?_some e
    have h2 := List.mem_of_find?_eq_some e
    have h3 : x.1 = k := by simpa using h1
    have h4 : x.2 = v := Option.some.inj h
    rw [← h3, ← h4]
    exact h2
section
variable {K : PySem.W.Frag} {σ : L2.St} {H H' : Hp} {ta tb tc te tx tl td ty tv : TE} {t u : TT} {x y z v : V} {r r' : R2} {D : Ends} {tu tw tz : TS} {g : TG} {d : Addr} {kvs : List (Key × V)} {k : Int}
theorem ev_din (hy : Ev ty σ H (.int k)) (hd : Ev td σ H (.ref d)) (h : H d = some (.dK kvs)) : Ev (tDIn ty td) σ H (.bl (valV kvs (.inl k)).isSome) := fun H1 e Q q =>
  hy H1 e _ fun H2 e2 => hd H2 (e.trans e2) _ fun H3 e3 => ⟨d, _, rfl, DGet.k (k := Sum.inl k) (((e.trans e2).trans e3) d _ h), q H3 (e2.trans e3)⟩
theorem ev_dnotin (hy : Ev ty σ H (.int k)) (hd : Ev td σ H (.ref d)) (h : H d = some (.dK kvs)) : Ev (tDNotIn ty td) σ H (.bl (!(valV kvs (.inl k)).isSome)) := fun H1 e Q q =>
  hy H1 e _ fun H2 e2 => hd H2 (e.trans e2) _ fun H3 e3 => ⟨d, _, rfl, DGet.k (k := Sum.inl k) (((e.trans e2).trans e3) d _ h), q H3 (e2.trans e3)⟩
theorem ev_dget (hd : Ev td σ H (.ref d)) (hy : Ev ty σ H (.int k)) (h : H d = some (.dK kvs)) (hv : valV kvs (.inl k) = some v) : Ev (tDGet td ty) σ H v := fun H1 e Q q =>
  hd H1 e _ fun H2 e2 => hy H2 (e.trans e2) _ fun H3 e3 => ⟨d, v, rfl, hv ▸ DGet.k (k := Sum.inl k) (((e.trans e2).trans e3) d _ h), q H3 (e2.trans e3)⟩
theorem ev_dget2 (hd : Ev td σ H (.ref d)) (hy : Ev ty σ H (.int k)) (hx : Ev tx σ H z) (h : H d = some (.dK kvs)) : Ev (tDGet2 td ty tx) σ H ((valV kvs (.inl k)).getD z) := fun H1 e Q q =>
  hd H1 e _ fun H2 e2 => ⟨d, rfl, .inl ⟨kvs, .inl ((e.trans e2) d _ h)⟩, hy H2 (e.trans e2) _ fun H3 e3 => hx H3 ((e.trans e2).trans e3) _ fun H4 e4 => ⟨_, DGet.k (k := Sum.inl k) ((((e.trans e2).trans e3).trans e4) d _ h), q H4 ((e2.trans e3).trans e4)⟩⟩
theorem s_dput (hv : Ev tv σ H v) (hd : Ev td σ H (.ref d)) (hy : Ev ty σ H (.int k)) (h : H d = some (.dK kvs)) (hl : kvs.length < 100000) (q : ∀ H1, Ex H H1 → D.nx σ (upd H1 d (.dK (putK kvs (.inl k) v)))) : sDPut td ty tv D σ H :=
  hv H (Ex.refl H) _ fun H1 e1 => hd H1 e1 _ fun H2 e2 => hy H2 (e1.trans e2) _ fun H3 e3 => ⟨d, _, rfl, DPut.k (k := Sum.inl k) (((e1.trans e2).trans e3) d _ h) (sz_lt hl), q H3 ((e1.trans e2).trans e3)⟩
theorem q_dput (hv : Ev tv σ H v) (hd : Ev td σ H (.ref d)) (hy : Ev ty σ H (.int k)) (h : H d = some (.dK kvs)) (hl : kvs.length < 100000) (q : ∀ H1, Ex H H1 → tz D σ (upd H1 d (.dK (putK kvs (.inl k) v)))) : tSeq (sDPut td ty tv) tz D σ H :=
  s_dput (D := { D with nx := tz D }) hv hd hy h hl q
/-- a, b = [], {} -/
theorem q_parLD {i j : Nat} (q : ∀ p d H1, H p = none → H d = none → p ≠ d → Ex H H1 → H1 p = some (.lst []) → H1 d = some (.dK []) → tz D ((σ.set i (some (.ref p))).set j (some (.ref d))) H1) : tSeq (tPar i j (tCons (tLst tNil) (tCons tDNewK tNil))) tz D σ H :=
  ⟨Nat.zero_le _, fun p hp d hd => ⟨_, _, rfl, by
    have npd : p ≠ d := fun e => by
      rw [← e, upd_same] at hd
      cases hd
    have hd0 : H d = none := by
      rw [upd_ne npd.symm] at hd
      exact hd
    exact q p d _ hp hd0 npd ((Ex.new hp).trans (Ex.new hd)) (by rw [upd_ne npd, upd_same]) upd_same⟩⟩
end
/-! ### courses in a heap -/
/-- the places so far -/
def plc (f : Int → Int) (n : Int) (m : Nat) : List (Key × V) := (List.range m).map fun (j : Nat) => (Sum.inl (it f j n), V.int (j : Int))
theorem plc_succ (f : Int → Int) (n : Int) (m : Nat) : plc f n (m + 1) = plc f n m ++ [(Sum.inl (it f m n), V.int (m : Int))] := by simp [plc, List.range_succ]
theorem plc_len (f : Int → Int) (n : Int) (m : Nat) : (plc f n m).length = m := by simp [plc]
theorem plc_out {f : Int → Int} {n : Int} {m : Nat} (h : valV (plc f n m) (.inl (it f m n)) = none) : ∀ c, c < m → it f m n ≠ it f c n := fun c hc e => by
  refine valV_not h ?_
  simp only [plc, List.map_map, List.mem_map, List.mem_range]
  exact ⟨c, hc, by show Sum.inl (it f c n) = _; rw [e]⟩
theorem plc_in {f : Int → Int} {n : Int} {m : Nat} {v : V} (h : valV (plc f n m) (.inl (it f m n)) = some v) : ∃ c, c < m ∧ it f m n = it f c n ∧ v = .int (c : Int) := by
  have h2 := valV_inv h
  simp only [plc, List.mem_map, List.mem_range, Prod.mk.injEq, Sum.inl.injEq] at h2
  obtain ⟨c, hc, e1, e2⟩ := h2
  exact ⟨c, hc, e1.symm, e2.symm⟩
/-- the promise of a course: a new tuple of a new list and a place -/
def SpCourse : Sp := fun vs H Q _ => ∃ (b l n : Int), vs = [.int b, .int l, .int n] ∧ (2 ≤ b ∧ b ≤ 12 ∧ 1 ≤ l ∧ l ≤ 8) ∧
  ∀ (t a : Addr) (H2 : Hp) (m c : Nat), Course (stepM b l.toNat) n m c → m ≤ 20737 → H a = none → Ex H H2 → H2 a = some (.lst ((orb (stepM b l.toNat) n m).map V.int)) → H2 t = some (.tup [.ref a, .int (c : Int)]) → Q (.ref t) H2
theorem sp_course_p {σ : L2.St} {E : XK} {ta : TA} {b l n : Int} {H : Hp} (h : 2 ≤ b ∧ b ≤ 12 ∧ 1 ≤ l ∧ l ≤ 8) (ha : EvA ta σ H [.int b, .int l, .int n]) :
    EvP (tCall SpCourse [] E ta) σ H fun v H2 => ∃ p x y, v = .ref p ∧ H2 p = some (.tup [x, y]) ∧ ∃ (a : Addr) (m c : Nat), x = .ref a ∧ y = .int (c : Int) ∧ H a = none ∧ Course (stepM b l.toNat) n m c ∧ m ≤ 20737 ∧ H2 a = some (.lst ((orb (stepM b l.toNat) n m).map V.int)) :=
  fun H1 e Q q => ha H1 e _ fun H2 e2 => ⟨b, l, n, rfl, h, fun t a H3 m c hC hm na e3 h1 h2 => q _ H3 (e2.trans e3) ⟨t, _, _, rfl, h2, a, m, c, rfl, rfl, fresh_back (e.trans e2) na, hC, hm, h1⟩⟩
end Sl
namespace Sl
open PySem PySem.Spec PyProof.Rows L2 Evl
/-! ### comprehensions without a test -/
section
variable {K : PySem.W.Frag} {σ : L2.St} {H H' : Hp} {te tl : TE} {j : Nat} {vs : List Nat} {xs : List V} {g : V → V}
theorem lc_word {H1 : Hp} {Dl : Addr} {i : Nat} {x : V} {σ2 : L2.St} (hx : xs[i]? = some x) (hz : xs.length ≤ 40000) (p : H1 Dl = none ∧ Ex H1 H' ∧ H' Dl = some (.lst ((xs.take i).map g))) (he : ∀ H2, Ex H1 H2 → Ev te σ2 H2 (g x)) :
    tYes σ2 H' fun b H3 => if b = true then te σ2 H3 fun y H4 => ∃ acc, H4 Dl = some (.lst acc) ∧ acc.length < sizeLine ∧ (H1 Dl = none ∧ Ex H1 (upd H4 Dl (.lst (acc ++ [y]))) ∧ (upd H4 Dl (.lst (acc ++ [y]))) Dl = some (.lst ((xs.take (i + 1)).map g))) else (H1 Dl = none ∧ Ex H1 H3 ∧ H3 Dl = some (.lst ((xs.take (i + 1)).map g))) := by
  obtain ⟨p1, p2, p3⟩ := p
  unfold tYes
  refine iteT ?_
  refine he H' p2 H' (Ex.refl H') _ fun H4 e4 => ⟨_, e4 Dl _ p3, sz_lt ?_, p1, Ex.mut (p2.trans e4) p1, ?_⟩
  · rw [List.length_map, List.length_take]
    omega
  · rw [upd_same, List.take_add_one, hx, List.map_append] <;> rfl
/-- over a new tuple -/
theorem el_mapT (h : EvU tl σ H xs) (hz : xs.length ≤ 40000) (hw : ∀ x, wipe ((wipe σ vs).set j (some x)) vs = wipe σ vs) (he : ∀ x ∈ xs, ∀ H1, Ex H H1 → Ev te ((wipe σ vs).set j (some x)) H1 (g x)) :
    EvL (tLc (iTup K tl) (gName j) tYes te vs) σ H (xs.map g) := fun H0 e Q q => h H0 e _ fun a H1 ha e1 hx => ⟨a, rfl, ⟨xs, st_of hx⟩, fun Dl hD =>
  lc_tup (xs := xs) (fun i H' => H1 Dl = none ∧ Ex H1 H' ∧ H' Dl = some (.lst ((xs.take i).map g))) ⟨hD, Ex.new hD, upd_same⟩ (fun i H' _ p => st_of (p.2.1 a _ hx))
    (fun i x H' hi p => ⟨hw x, lc_word hi hz p fun H2 e2 => he x (List.mem_of_getElem? hi) H2 ((e.trans e1).trans e2)⟩)
    (fun H' p => q Dl H' (fresh_back e1 p.1) (e1.trans p.2.1) (by rw [p.2.2, List.take_length]))⟩
/-- over a tuple -/
theorem el_mapTt {a : Addr} (h : Ev tl σ H (.ref a)) (hx : SqT K H a xs) (hz : xs.length ≤ 40000) (hw : ∀ x, wipe ((wipe σ vs).set j (some x)) vs = wipe σ vs) (he : ∀ x ∈ xs, ∀ H1, Ex H H1 → Ev te ((wipe σ vs).set j (some x)) H1 (g x)) :
    EvL (tLc (iTup K tl) (gName j) tYes te vs) σ H (xs.map g) := fun H0 e Q q => h H0 e _ fun H1 e1 => ⟨a, rfl, ⟨xs, ex_t (e.trans e1) hx⟩, fun Dl hD =>
  lc_tup (xs := xs) (fun i H' => H1 Dl = none ∧ Ex H1 H' ∧ H' Dl = some (.lst ((xs.take i).map g))) ⟨hD, Ex.new hD, upd_same⟩ (fun i H' _ p => ex_t ((e.trans e1).trans p.2.1) hx)
    (fun i x H' hi p => ⟨hw x, lc_word hi hz p fun H2 e2 => he x (List.mem_of_getElem? hi) H2 ((e.trans e1).trans e2)⟩)
    (fun H' p => q Dl H' (fresh_back e1 p.1) (e1.trans p.2.1) (by rw [p.2.2, List.take_length]))⟩
/-- over a list -/
theorem el_mapL {a : Addr} (h : Ev tl σ H (.ref a)) (hx : SqL K H a xs) (hz : xs.length ≤ 40000) (hw : ∀ x, wipe ((wipe σ vs).set j (some x)) vs = wipe σ vs) (he : ∀ x ∈ xs, ∀ H1, Ex H H1 → Ev te ((wipe σ vs).set j (some x)) H1 (g x)) :
    EvL (tLc (iList K tl) (gName j) tYes te vs) σ H (xs.map g) := fun H0 e Q q => h H0 e _ fun H1 e1 => ⟨a, rfl, ⟨xs, ex_l (e.trans e1) hx⟩, fun Dl hD =>
  lc_list (xs := xs) (fun i H' => H1 Dl = none ∧ Ex H1 H' ∧ H' Dl = some (.lst ((xs.take i).map g))) ⟨hD, Ex.new hD, upd_same⟩ (fun i H' _ p => ex_l ((e.trans e1).trans p.2.1) hx)
    (fun i x H' hi p => ⟨hw x, lc_word hi hz p fun H2 e2 => he x (List.mem_of_getElem? hi) H2 ((e.trans e1).trans e2)⟩)
    (fun H' p => q Dl H' (fresh_back e1 p.1) (e1.trans p.2.1) (by rw [p.2.2, List.take_length]))⟩
/-- over a new list -/
theorem el_mapNL (h : EvL tl σ H xs) (hz : xs.length ≤ 40000) (hw : ∀ x, wipe ((wipe σ vs).set j (some x)) vs = wipe σ vs) (he : ∀ x ∈ xs, ∀ H1, Ex H H1 → Ev te ((wipe σ vs).set j (some x)) H1 (g x)) :
    EvL (tLc (iList K tl) (gName j) tYes te vs) σ H (xs.map g) := fun H0 e Q q => h H0 e _ fun a H1 ha e1 hx => ⟨a, rfl, ⟨xs, sq_of hx⟩, fun Dl hD =>
  lc_list (xs := xs) (fun i H' => H1 Dl = none ∧ Ex H1 H' ∧ H' Dl = some (.lst ((xs.take i).map g))) ⟨hD, Ex.new hD, upd_same⟩ (fun i H' _ p => sq_of (p.2.1 a _ hx))
    (fun i x H' hi p => ⟨hw x, lc_word hi hz p fun H2 e2 => he x (List.mem_of_getElem? hi) H2 ((e.trans e1).trans e2)⟩)
    (fun H' p => q Dl H' (fresh_back e1 p.1) (e1.trans p.2.1) (by rw [p.2.2, List.take_length]))⟩
end
end Sl
namespace Sl
open PySem PySem.Spec PyProof.Rows L2 Evl
/-! ### slices, least ones, data compared -/
theorem cut_drop {xs : List V} {c : Nat} (h : c ≤ xs.length) : cutV xs (some (c : Int)) none = xs.drop c := by
  unfold cutV
  rw [HT.sIx_none, HT.sIx_nat, Nat.min_eq_left h]
  exact List.take_of_length_le (by rw [List.length_drop]; omega)
theorem cut_take {xs : List V} {c : Nat} (h : c ≤ xs.length) : cutV xs none (some (c : Int)) = xs.take c := by
  unfold cutV
  rw [HT.sIx_none, HT.sIx_nat, Nat.min_eq_left h]
  rfl
theorem map_drop_int (ns : List Int) (c : Nat) : (ns.map V.int).drop c = (ns.drop c).map V.int := by rw [List.map_drop]
/-- data -/
def pI (ns : List Int) : List PyData := ns.map PyData.int
def pLL (xss : List (List Int)) : List PyData := xss.map fun ns => PyData.list (pI ns)
theorem eqv_ints : ∀ ns ms : List Int, PyData.eqvAll (pI ns) (pI ms) = decide (ns = ms)
  | [], [] => by simp [pI, PyData.eqvAll]
  | [], m :: ms => by simp [pI, PyData.eqvAll]
  | n :: ns, [] => by simp [pI, PyData.eqvAll]
  | n :: ns, m :: ms => by
    have ih := eqv_ints ns ms
    unfold pI at ih
    simp only [pI, List.map_cons, PyData.eqvAll, PyData.eqv, ih]
    by_cases h1 : n = m
    · by_cases h2 : ns = ms
      · simp [h1, h2]
      · simp [h1, h2]
    · simp [h1]
theorem eqv_lists : ∀ xs ys : List (List Int), PyData.eqvAll (pLL xs) (pLL ys) = decide (xs = ys)
  | [], [] => by simp [pLL, PyData.eqvAll]
  | [], m :: ms => by simp [pLL, PyData.eqvAll]
  | n :: ns, [] => by simp [pLL, PyData.eqvAll]
  | n :: ns, m :: ms => by
    have ih := eqv_lists ns ms
    unfold pLL at ih
    simp only [pLL, List.map_cons, PyData.eqvAll, PyData.eqv, ih, eqv_ints]
    by_cases h1 : n = m
    · by_cases h2 : ns = ms
      · simp [h1, h2]
      · simp [h1, h2]
    · simp [h1]
theorem can_ints : ∀ ns : List Int, PyData.canLayAll0 (pI ns) = true ∧ PyData.depthAll (pI ns) = 0
  | [] => by simp [pI, PyData.canLayAll0, PyData.depthAll]
  | n :: ns => by
    have ih := can_ints ns
    unfold pI at ih
    simp [pI, PyData.canLayAll0, PyData.canLay0, PyData.depthAll, PyData.depth, ih.1, ih.2]
theorem can_lists : ∀ xs : List (List Int), PyData.canLayAll0 (pLL xs) = true ∧ PyData.depthAll (pLL xs) ≤ 1
  | [] => by simp [pLL, PyData.canLayAll0, PyData.depthAll]
  | n :: ns => by
    have ih := can_lists ns
    have i1 := can_ints n
    unfold pLL at ih
    simp [pLL, PyData.canLayAll0, PyData.canLay0, PyData.depthAll, PyData.depth, ih.1, ih.2, i1.1, i1.2]
theorem shaped_lst (ns : List Int) : SeqAt.shaped (.list (pI ns)) = true := by
  have h := can_ints ns
  simp [SeqAt.shaped, PyData.canLay0, PyData.depth, h.1, h.2]
theorem shaped_tup (ns : List Int) : SeqAt.shaped (.tuple (pI ns)) = true := by
  have h := can_ints ns
  simp [SeqAt.shaped, PyData.canLay0, PyData.depth, h.1, h.2]
theorem shaped_ll (xs : List (List Int)) : SeqAt.shaped (.list (pLL xs)) = true := by
  have h := can_lists xs
  simp [SeqAt.shaped, PyData.canLay0, PyData.depth, h.1]
  omega
theorem dp_ints {K : PySem.W.Frag} {H : Hp} : ∀ ns : List Int, DpAll K H (ns.map V.int) (pI ns)
  | [] => .nil
  | n :: ns => .cons (.int n) (dp_ints ns)
/-- lists of ints at addresses -/
def Nest (K : PySem.W.Frag) (H : Hp) : List V → List (List Int) → Prop
  | [], [] => True
  | v :: vs, ns :: xss => (∃ a, v = .ref a ∧ SqL K H a (ns.map V.int)) ∧ Nest K H vs xss
  | _, _ => False
theorem Nest.ex {K : PySem.W.Frag} {H H' : Hp} (e : Ex H H') : ∀ {vs : List V} {xss : List (List Int)}, Nest K H vs xss → Nest K H' vs xss
  | [], [], _ => True.intro
  | v :: vs, ns :: xss, ⟨⟨a, h1, h2⟩, h3⟩ => ⟨⟨a, h1, ex_l e h2⟩, Nest.ex e h3⟩
  | [], _ :: _, h => nomatch h
  | _ :: _, [], h => nomatch h
theorem Nest.dp {K : PySem.W.Frag} {H : Hp} : ∀ {vs : List V} {xss : List (List Int)}, Nest K H vs xss → DpAll K H vs (pLL xss)
  | [], [], _ => .nil
  | v :: vs, ns :: xss, ⟨⟨a, h1, h2⟩, h3⟩ => by
    subst h1
    exact .cons (.lst h2 (dp_ints ns)) (Nest.dp h3)
  | [], _ :: _, h => nomatch h
  | _ :: _, [], h => nomatch h
theorem Nest.len {K : PySem.W.Frag} {H : Hp} : ∀ {vs : List V} {xss : List (List Int)}, Nest K H vs xss → vs.length = xss.length
  | [], [], _ => rfl
  | v :: vs, ns :: xss, ⟨_, h3⟩ => by rw [List.length_cons, List.length_cons, Nest.len h3]
  | [], _ :: _, h => nomatch h
  | _ :: _, [], h => nomatch h
theorem Nest.get {K : PySem.W.Frag} {H : Hp} : ∀ {vs : List V} {xss : List (List Int)} {i : Nat} {v : V}, Nest K H vs xss → vs[i]? = some v → ∃ a ns, v = .ref a ∧ xss[i]? = some ns ∧ SqL K H a (ns.map V.int)
  | [], _, _, _, _, e => nomatch e
  | _ :: _, [], _, _, h, _ => nomatch h
  | w :: vs, ns :: xss, 0, v, ⟨⟨a, h1, h2⟩, _⟩, e => by
    have : w = v := Option.some.inj e
    subst this
    exact ⟨a, ns, h1, rfl, h2⟩
  | w :: vs, ns :: xss, i + 1, v, ⟨_, h3⟩, e => Nest.get (i := i) h3 e
theorem Nest.append {K : PySem.W.Frag} {H : Hp} : ∀ {vs ws : List V} {xss yss : List (List Int)}, Nest K H vs xss → Nest K H ws yss → Nest K H (vs ++ ws) (xss ++ yss)
  | [], _, [], _, _, h => h
  | v :: vs, _, ns :: xss, _, ⟨h1, h3⟩, h => ⟨h1, Nest.append h3 h⟩
  | [], _, _ :: _, _, h, _ => nomatch h
  | _ :: _, _, [], _, h, _ => nomatch h
section
variable {K : PySem.W.Frag} {σ : L2.St} {H H' : Hp} {ta tb tc te tx tl : TE} {t u : TT} {x y z v : V} {r r' : R2} {D : Ends} {tu tw tz : TS}
theorem rv_eqD {d e : PyData} (hx : ∀ H1, Ex H H1 → Dp K H1 x d) (hy : ∀ H1, Ex H H1 → Dp K H1 y e) (sd : SeqAt.shaped d = true) (se : SeqAt.shaped e = true) {b : Bool} (hb : PyData.eqv d e = b) : RV (rEqD K) x y H (.bl b) := fun H1 e1 _ q =>
  ⟨d, e, hx H1 e1, hy H1 e1, sd, se, by rw [hb]; exact q H1 (Ex.refl H1)⟩
theorem rv_neD {d e : PyData} (hx : ∀ H1, Ex H H1 → Dp K H1 x d) (hy : ∀ H1, Ex H H1 → Dp K H1 y e) (sd : SeqAt.shaped d = true) (se : SeqAt.shaped e = true) {b : Bool} (hb : PyData.eqv d e = b) : RV (rNeD K) x y H (.bl (!b)) := fun H1 e1 _ q =>
  ⟨d, e, hx H1 e1, hy H1 e1, sd, se, by rw [hb]; exact q H1 (Ex.refl H1)⟩
theorem rv_eqL {p q : Addr} {ns ms : List Int} (h1 : SqL K H p (ns.map V.int)) (h2 : SqL K H q (ms.map V.int)) : RV (rEqD K) (.ref p) (.ref q) H (.bl (decide (ns = ms))) :=
  rv_eqD (fun _ e => .lst (ex_l e h1) (dp_ints ns)) (fun _ e => .lst (ex_l e h2) (dp_ints ms)) (shaped_lst ns) (shaped_lst ms) (by rw [← eqv_ints]; rfl)
theorem rv_neL {p q : Addr} {ns ms : List Int} (h1 : SqL K H p (ns.map V.int)) (h2 : SqL K H q (ms.map V.int)) : RV (rNeD K) (.ref p) (.ref q) H (.bl (!decide (ns = ms))) :=
  rv_neD (fun _ e => .lst (ex_l e h1) (dp_ints ns)) (fun _ e => .lst (ex_l e h2) (dp_ints ms)) (shaped_lst ns) (shaped_lst ms) (by rw [← eqv_ints]; rfl)
theorem rv_eqT {p q : Addr} {ns ms : List Int} (h1 : SqT K H p (ns.map V.int)) (h2 : SqT K H q (ms.map V.int)) : RV (rEqD K) (.ref p) (.ref q) H (.bl (decide (ns = ms))) :=
  rv_eqD (fun _ e => .tup (ex_t e h1) (dp_ints ns)) (fun _ e => .tup (ex_t e h2) (dp_ints ms)) (shaped_tup ns) (shaped_tup ms) (by rw [← eqv_ints]; rfl)
theorem rv_neT {p q : Addr} {ns ms : List Int} (h1 : SqT K H p (ns.map V.int)) (h2 : SqT K H q (ms.map V.int)) : RV (rNeD K) (.ref p) (.ref q) H (.bl (!decide (ns = ms))) :=
  rv_neD (fun _ e => .tup (ex_t e h1) (dp_ints ns)) (fun _ e => .tup (ex_t e h2) (dp_ints ms)) (shaped_tup ns) (shaped_tup ms) (by rw [← eqv_ints]; rfl)
theorem rv_eqLL {p q : Addr} {vs ws : List V} {xs ys : List (List Int)} (h1 : SqL K H p vs) (n1 : Nest K H vs xs) (h2 : SqL K H q ws) (n2 : Nest K H ws ys) : RV (rEqD K) (.ref p) (.ref q) H (.bl (decide (xs = ys))) :=
  rv_eqD (fun _ e => .lst (ex_l e h1) (n1.ex e).dp) (fun _ e => .lst (ex_l e h2) (n2.ex e).dp) (shaped_ll xs) (shaped_ll ys) (by rw [← eqv_lists]; rfl)
theorem rv_neLL {p q : Addr} {vs ws : List V} {xs ys : List (List Int)} (h1 : SqL K H p vs) (n1 : Nest K H vs xs) (h2 : SqL K H q ws) (n2 : Nest K H ws ys) : RV (rNeD K) (.ref p) (.ref q) H (.bl (!decide (xs = ys))) :=
  rv_neD (fun _ e => .lst (ex_l e h1) (n1.ex e).dp) (fun _ e => .lst (ex_l e h2) (n2.ex e).dp) (shaped_ll xs) (shaped_ll ys) (by rw [← eqv_lists]; rfl)
/-- xs == [], xs != [] -/
theorem ev_neNil {p : Addr} {ns : List Int} (ha : Ev ta σ H (.ref p)) (h : SqL K H p (ns.map V.int)) : Ev (tOp (rNeD K) ta (tLst tNil)) σ H (.bl (!decide (ns = []))) :=
  ev_opL ha (el_lst ea_nil (Nat.zero_le _)) fun _ _ hq e => rv_neL (ms := []) (ex_l e h) (sq_of hq)
/-- min(xs) -/
theorem ev_minN {ns : List Int} (ha : EvL ta σ H (ns.map V.int)) (hn : 0 < ns.length) : Ev (tCB (rMin K) (tCons ta tNil)) σ H (.int (lmin ns)) := fun H1 e Q q =>
  ha H1 e _ fun p H2 _ e2 h2 => ⟨p, ns, rfl, sq_of h2, hn, fun m hm hl => by rw [lmin_eq hm hl]; exact q H2 e2⟩
theorem ev_min {p : Addr} {ns : List Int} (ha : Ev ta σ H (.ref p)) (h : SqL K H p (ns.map V.int)) (hn : 0 < ns.length) : Ev (tCB (rMin K) (tCons ta tNil)) σ H (.int (lmin ns)) := fun H1 e Q q =>
  ha H1 e _ fun H2 e2 => ⟨p, ns, rfl, ex_l (e.trans e2) h, hn, fun m hm hl => by rw [lmin_eq hm hl]; exact q H2 e2⟩
theorem ev_sumN {ns : List Int} (ha : EvL ta σ H (ns.map V.int)) : Ev (tCB (rSum K) (tCons ta tNil)) σ H (.int ns.sum) := fun H1 e Q q =>
  ha H1 e _ fun p H2 _ e2 h2 => ⟨p, ns, rfl, sq_of h2, q H2 e2⟩
theorem ev_sum {p : Addr} {ns : List Int} (ha : Ev ta σ H (.ref p)) (h : SqL K H p (ns.map V.int)) : Ev (tCB (rSum K) (tCons ta tNil)) σ H (.int ns.sum) := fun H1 e Q q =>
  ha H1 e _ fun H2 e2 => ⟨p, ns, rfl, ex_l (e.trans e2) h, q H2 e2⟩
/-- all([..]), any([..]) -/
theorem ev_allN {bs : List Bool} (ha : EvL ta σ H (bs.map V.bl)) : Ev (tCB (rAll K) (tCons ta tNil)) σ H (.bl (bs.all id)) := fun H1 e Q q =>
  ha H1 e _ fun p H2 _ e2 h2 => ⟨p, bs, rfl, sq_of h2, q H2 e2⟩
theorem ev_anyN {bs : List Bool} (ha : EvL ta σ H (bs.map V.bl)) : Ev (tCB (rAny K) (tCons ta tNil)) σ H (.bl (bs.any id)) := fun H1 e Q q =>
  ha H1 e _ fun p H2 _ e2 h2 => ⟨p, bs, rfl, sq_of h2, q H2 e2⟩
theorem el_is {xs ys : List V} (h : EvL te σ H xs) (e : xs = ys) : EvL te σ H ys := by
  rw [← e]
  exact h
/-- isinstance of a list, a tuple -/
theorem rc_isi_tup {p : Addr} {xs : List V} (h : H p = some (.tup xs)) : RC (rIsi K) [.ref p, .ty "tuple"] H (.bl true) := rc_isi (.ty "tuple") (fun _ e => .base (.tup (e p _ h))) (kit_ty (by decide +kernel))
theorem rc_isi_lst {p : Addr} {xs : List V} (h : H p = some (.lst xs)) : RC (rIsi K) [.ref p, .ty "list"] H (.bl true) := rc_isi (.ty "list") (fun _ e => .base (.lst (e p _ h))) (kit_ty (by decide +kernel))
/-- what comes as some value, then the rest -/
theorem q_asgP {i : Nat} {R : V → Hp → Prop} (h : EvP te σ H R) (k : ∀ v H1, Ex H H1 → R v H1 → tz D (σ.set i (some v)) H1) : tSeq (tAsg te (gName i)) tz D σ H :=
  h H (Ex.refl H) _ fun v H1 e hR => k v H1 e hR
/-- the first operand some value -/
theorem ev_opP {R : V → Hp → Prop} (ha : EvP ta σ H R) (hb : ∀ v H1, Ex H H1 → R v H1 → ∀ H2, Ex H1 H2 → ∀ Q : VK, (∀ H3, Ex H2 H3 → Q z H3) → tb σ H2 fun y H3 => r v y H3 Q) : Ev (tOp r ta tb) σ H z := fun H1 e Q q =>
  ha H1 e _ fun v H2 e2 hR => hb v H2 (e.trans e2) hR H2 (Ex.refl H2) Q fun H3 e3 => q H3 (e2.trans e3)
end
end Sl
namespace Sl
open PySem PySem.Spec PyProof.Rows L2 Evl
section
variable {K : PySem.W.Frag} {σ : L2.St} {H H' : Hp} {ta tb tc te tx tl : TE} {x y z v : V}
theorem ev_lenI {p : Addr} {ns : List Int} (ha : Ev ta σ H (.ref p)) (h : SqL K H p (ns.map V.int)) : Ev (tCB (rLenS K) (tCons ta tNil)) σ H (.int (ns.length : Int)) := ev_is (ev_len ha h) (by rw [List.length_map])
theorem ev_lenO {p : Addr} {f : Int → Int} {n : Int} {m : Nat} (ha : Ev ta σ H (.ref p)) (h : SqL K H p ((orb f n m).map V.int)) : Ev (tCB (rLenS K) (tCons ta tNil)) σ H (.int (m : Int)) := ev_is (ev_len ha h) (by rw [List.length_map, orb_len])
theorem at_orb2 {f : Int → Int} {n : Int} {m : Nat} {k : Int} (h0 : 0 ≤ k) (h1 : k < m) : atI ((orb f n m).map V.int) k = some (.int (it f k.toNat n)) := by
  refine at_of (j := k.toNat) (by omega) ?_
  rw [List.getElem?_map, orb_get (by omega)] <;> rfl
theorem at_orb_last {f : Int → Int} {n : Int} {m : Nat} (h : 0 < m) : atI ((orb f n m).map V.int) (-1) = some (.int (it f (m - 1) n)) := by
  obtain ⟨k, rfl⟩ : ∃ k, m = k + 1 := ⟨m - 1, by omega⟩
  rw [orb_succ, List.map_append]
  exact atI_last _ _
end
theorem Course.of_check {f : Int → Int} {n : Int} {m c : Nat} (h : c < m) (hb : it f m n = it f c n) (hn : (orb f n m).Nodup) : Course f n m c := by
  refine ⟨h, hb, fun i j hi hj e => ?_⟩
  rw [List.nodup_iff_pairwise_ne] at hn
  have key : ∀ i j, i < j → j < m → it f i n ≠ it f j n := fun i j hij hj => by
    have g := List.pairwise_iff_getElem.mp hn i j (by rw [orb_len]; omega) (by rw [orb_len]; omega) hij
    have e1 := (List.getElem?_eq_some_iff.mp (orb_get (f := f) (n := n) (m := m) (i := i) (by omega))).2
    have e2 := (List.getElem?_eq_some_iff.mp (orb_get (f := f) (n := n) (m := m) (i := j) (by omega))).2
    rw [e1, e2] at g
    exact g
  rcases Nat.lt_trichotomy i j with h1 | h1 | h1
  · exact absurd e (key i j h1 hj)
  · exact h1
  · exact absurd e.symm (key j i h1 hi)
end Sl
namespace Sl
open PySem PySem.Spec PyProof.Rows L2 Evl
theorem ring_cut {f : Int → Int} {n : Int} {m c : Nat} (h : c ≤ m) : cutV ((orb f n m).map V.int) (some (c : Int)) none = (ring f n m c).map V.int := by
  rw [cut_drop (by rw [List.length_map, orb_len]; exact h), map_drop_int]
  rfl
theorem ring_pos {f : Int → Int} {n : Int} {m c : Nat} (h : c < m) : 0 < (ring f n m c).length := by
  unfold ring
  rw [List.length_drop, orb_len]
  omega
end Sl
namespace Sl
open PySem PySem.Spec PyProof.Rows L2 Evl
/-! ### new lists of new lists -/
structure Nst (H0 H : Hp) (p : Addr) (as : List Addr) (xss : List (List Int)) : Prop where
  top : H p = some (.lst (as.map V.ref))
  nd : (p :: as).Nodup
  new : ∀ a ∈ as, H0 a = none
  all : as.map H = xss.map fun ns => some (HO.lst (ns.map V.int))
theorem Nst.len {H0 H : Hp} {p : Addr} {as : List Addr} {xss : List (List Int)} (h : Nst H0 H p as xss) : as.length = xss.length := by
  have := congrArg List.length h.all
  simpa using this
theorem Nst.get {H0 H : Hp} {p : Addr} {as : List Addr} {xss : List (List Int)} (h : Nst H0 H p as xss) {i : Nat} {a : Addr} (e : as[i]? = some a) : ∃ ns, xss[i]? = some ns ∧ H a = some (.lst (ns.map V.int)) := by
  have := congrArg (fun l => l[i]?) h.all
  simp only [List.getElem?_map, e, Option.map_some] at this
  cases e2 : xss[i]? with
  | none =>
    rw [e2] at this
    cases this
  | some ns =>
    rw [e2] at this
    exact ⟨ns, rfl, Option.some.inj this⟩
theorem Nst.mem {H0 H : Hp} {p : Addr} {as : List Addr} {xss : List (List Int)} (h : Nst H0 H p as xss) {a : Addr} (e : a ∈ as) : ∃ ns, ns ∈ xss ∧ H a = some (.lst (ns.map V.int)) := by
  obtain ⟨i, hi⟩ := List.getElem?_of_mem e
  obtain ⟨ns, h1, h2⟩ := h.get hi
  exact ⟨ns, List.mem_of_getElem? h1, h2⟩
theorem map_ex {H H' : Hp} (e : Ex H H') : ∀ {as : List Addr} {xss : List (List Int)}, (as.map H = xss.map fun ns => some (HO.lst (ns.map V.int))) → (as.map H' = xss.map fun ns => some (HO.lst (ns.map V.int)))
  | [], [], _ => rfl
  | [], _ :: _, h => nomatch h
  | _ :: _, [], h => nomatch h
  | a :: as, ns :: xss, h => by
    rw [List.map_cons, List.map_cons] at h ⊢
    obtain ⟨h1, h2⟩ := List.cons.inj h
    rw [e a _ h1, map_ex e h2]
theorem Nst.ex {H0 H H' : Hp} {p : Addr} {as : List Addr} {xss : List (List Int)} (h : Nst H0 H p as xss) (e : Ex H H') : Nst H0 H' p as xss := ⟨e p _ h.top, h.nd, h.new, map_ex e h.all⟩
theorem nest_of {K : PySem.W.Frag} {H : Hp} : ∀ {as : List Addr} {xss : List (List Int)}, (as.map H = xss.map fun ns => some (HO.lst (ns.map V.int))) → Nest K H (as.map V.ref) xss
  | [], [], _ => True.intro
  | [], _ :: _, h => nomatch h
  | _ :: _, [], h => nomatch h
  | a :: as, ns :: xss, h => by
    rw [List.map_cons, List.map_cons] at h
    obtain ⟨h1, h2⟩ := List.cons.inj h
    exact ⟨⟨a, rfl, sq_of h1⟩, nest_of h2⟩
theorem Nst.nest {K : PySem.W.Frag} {H0 H : Hp} {p : Addr} {as : List Addr} {xss : List (List Int)} (h : Nst H0 H p as xss) : Nest K H (as.map V.ref) xss := nest_of h.all
def EvN (te : TE) (σ : L2.St) (H : Hp) (xss : List (List Int)) : Prop := ∀ H1, Ex H H1 → ∀ Q : VK, (∀ p as H2, H1 p = none → Ex H1 H2 → Nst H1 H2 p as xss → Q (.ref p) H2) → te σ H1 Q
def SpN (sp : Sp) (vs : List V) (H : Hp) (xss : List (List Int)) : Prop := ∀ H1, Ex H H1 → ∀ Q : VK, (∀ p as H2, H1 p = none → Ex H1 H2 → Nst H1 H2 p as xss → Q (.ref p) H2) → ∀ E : XK, sp vs H1 Q E
theorem Nst.back {H0 H1 H : Hp} {p : Addr} {as : List Addr} {xss : List (List Int)} (h : Nst H1 H p as xss) (e : Ex H0 H1) : Nst H0 H p as xss := ⟨h.top, h.nd, fun a ha => fresh_back e (h.new a ha), h.all⟩
/-- the word of a comprehension that makes such -/
def NW (H1 : Hp) (Dl : Addr) (xss : List (List Int)) (H' : Hp) : Prop := H1 Dl = none ∧ Ex H1 H' ∧ ∃ as, Nst H1 H' Dl as xss
section
variable {K : PySem.W.Frag} {σ : L2.St} {H H' : Hp} {ta tb tc te tx tl : TE} {t u : TT} {x y z v : V} {r r' : R2} {D : Ends} {tu tw tz : TS} {g : TG}
theorem nw_zero {Dl : Addr} (h : H Dl = none) : NW H Dl [] (upd H Dl (.lst [])) := ⟨h, Ex.new h, [], upd_same, by simp, (fun _ h => nomatch h), rfl⟩
theorem nw_turn {H1 : Hp} {Dl : Addr} {xss : List (List Int)} {ns : List Int} {σ2 : L2.St} (p : NW H1 Dl xss H') (hz : xss.length < 100000) (he : ∀ H2, Ex H1 H2 → EvL te σ2 H2 (ns.map V.int)) :
    tYes σ2 H' fun b H3 => if b = true then te σ2 H3 fun y H4 => ∃ acc, H4 Dl = some (.lst acc) ∧ acc.length < sizeLine ∧ NW H1 Dl (xss ++ [ns]) (upd H4 Dl (.lst (acc ++ [y]))) else NW H1 Dl (xss ++ [ns]) H3 := by
  obtain ⟨p1, p2, as, hN⟩ := p
  unfold tYes
  refine iteT ?_
  refine he H' p2 H' (Ex.refl H') _ fun q H4 nq e4 hq => ⟨as.map V.ref, e4 Dl _ hN.top, sz_lt ?_, p1, Ex.mut (p2.trans e4) p1, as ++ [q], ?_, ?_, ?_, ?_⟩
  · rw [List.length_map, hN.len]
    exact hz
  · rw [upd_same, List.map_append]
    rfl
  · have n1 := List.nodup_cons.mp hN.nd
    have qD : q ≠ Dl := fun e => by
      rw [e, hN.top] at nq
      cases nq
    have qa : q ∉ as := fun h => by
      obtain ⟨ns, _, h2⟩ := hN.mem h
      rw [h2] at nq
      cases nq
    refine List.nodup_cons.mpr ⟨fun h => ?_, ?_⟩
    · rcases List.mem_append.mp h with h | h
      · exact n1.1 h
      · exact qD (List.mem_singleton.mp h).symm
    · rw [List.nodup_append]
      refine ⟨n1.2, by simp, fun a ha b hb e => ?_⟩
      have : b = q := by simpa using hb
      rw [this] at e
      rw [e] at ha
      exact qa ha
  · intro a ha
    rcases List.mem_append.mp ha with h | h
    · exact hN.new a h
    · have : a = q := by simpa using h
      rw [this]
      exact fresh_back p2 nq
  · have hDn : ∀ a ∈ as ++ [q], upd H4 Dl (.lst (as.map V.ref ++ [.ref q])) a = H4 a := fun a ha => by
      refine upd_ne fun e => ?_
      rw [e] at ha
      rcases List.mem_append.mp ha with h | h
      · exact (List.nodup_cons.mp hN.nd).1 h
      · have e2 : Dl = q := by simpa using h
        rw [← e2, hN.top] at nq
        cases nq
    rw [List.map_congr_left hDn, List.map_append, List.map_append, map_ex e4 hN.all]
    simp [hq]
theorem wd {α : Type} {xs : List α} {i : Nat} {x : α} (h : xs[i]? = some x) : xs.take (i + 1) = xs.take i ++ [x] := by rw [List.take_add_one, h] <;> rfl
/-- over range(n) -/
theorem en_lcR1 {ta : TA} {j : Nat} {vs : List Nat} {n : Int} (xs : Nat → List Int) (h : EvA ta σ H [.int n]) (hn : 0 ≤ n ∧ n ≤ 40000) (hw : ∀ x, wipe ((wipe σ vs).set j (some x)) vs = wipe σ vs)
    (he : ∀ (i : Nat) H1, Ex H H1 → (i : Int) < n → EvL te ((wipe σ vs).set j (some (.int (i : Int)))) H1 ((xs i).map V.int)) :
    EvN (tLc (iRng1 ta) (gName j) tYes te vs) σ H ((List.range n.toNat).map xs) := fun H0 e Q q => h H0 e _ fun H1 e1 => ⟨n, rfl, by omega, by omega, fun Dl hD =>
  lc_range (lo := 0) (n := n.toNat) (fun i H' => NW H1 Dl ((List.range i).map xs) H') (nw_zero hD) (fun i H' hi p => by
    have e0 : (0 : Int) + (i : Int) = (i : Int) := Int.zero_add _
    show wipe ((wipe σ vs).set j (some (.int ((0 : Int) + (i : Int))))) vs = wipe σ vs ∧ tYes ((wipe σ vs).set j (some (.int ((0 : Int) + (i : Int))))) H' fun b H3 => if b = true then te ((wipe σ vs).set j (some (.int ((0 : Int) + (i : Int))))) H3 fun y H4 => ∃ acc, H4 Dl = some (.lst acc) ∧ acc.length < sizeLine ∧ NW H1 Dl ((List.range (i + 1)).map xs) (upd H4 Dl (.lst (acc ++ [y]))) else NW H1 Dl ((List.range (i + 1)).map xs) H3
    rw [e0, show (List.range (i + 1)).map xs = (List.range i).map xs ++ [xs i] by simp [List.range_succ]]
    exact ⟨hw _, nw_turn p (by simp; omega) fun H2 e2 => he i H2 ((e.trans e1).trans e2) (by omega)⟩) (fun H' p => by
    obtain ⟨p1, p2, as, hN⟩ := p
    exact q Dl as H' (fresh_back e1 p1) (e1.trans p2) (hN.back e1))⟩
/-- over range(lo, hi) -/
theorem en_lcR2 {ta : TA} {j : Nat} {vs : List Nat} {lo hi : Int} (xs : Int → List Int) (h : EvA ta σ H [.int lo, .int hi]) (hn : 0 ≤ lo ∧ lo ≤ 40000 ∧ -40000 ≤ hi ∧ hi ≤ 40000) (hw : ∀ x, wipe ((wipe σ vs).set j (some x)) vs = wipe σ vs)
    (he : ∀ (i : Int) H1, Ex H H1 → lo ≤ i → i < hi → EvL te ((wipe σ vs).set j (some (.int i))) H1 ((xs i).map V.int)) :
    EvN (tLc (iRng2 ta) (gName j) tYes te vs) σ H ((rng lo hi).map xs) := fun H0 e Q q => h H0 e _ fun H1 e1 => ⟨lo, hi, rfl, ⟨by omega, by omega, by omega, by omega⟩, fun Dl hD =>
  lc_range (lo := lo) (n := (hi - lo).toNat) (fun i H' => NW H1 Dl ((List.range i).map fun (k : Nat) => xs (lo + (k : Int))) H') (nw_zero hD) (fun i H' hi p => by
    show wipe ((wipe σ vs).set j (some (.int (lo + (i : Int))))) vs = wipe σ vs ∧ tYes ((wipe σ vs).set j (some (.int (lo + (i : Int))))) H' fun b H3 => if b = true then te ((wipe σ vs).set j (some (.int (lo + (i : Int))))) H3 fun y H4 => ∃ acc, H4 Dl = some (.lst acc) ∧ acc.length < sizeLine ∧ NW H1 Dl ((List.range (i + 1)).map fun (k : Nat) => xs (lo + (k : Int))) (upd H4 Dl (.lst (acc ++ [y]))) else NW H1 Dl ((List.range (i + 1)).map fun (k : Nat) => xs (lo + (k : Int))) H3
    rw [show ((List.range (i + 1)).map fun (k : Nat) => xs (lo + (k : Int))) = ((List.range i).map fun (k : Nat) => xs (lo + (k : Int))) ++ [xs (lo + (i : Int))] by simp [List.range_succ]]
    exact ⟨hw _, nw_turn p (by simp; omega) fun H2 e2 => he (lo + (i : Int)) H2 ((e.trans e1).trans e2) (by omega) (by omega)⟩) (fun H' p => by
    obtain ⟨p1, p2, as, hN⟩ := p
    have hN2 := hN.back e1
    rw [show ((List.range (hi - lo).toNat).map fun (k : Nat) => xs (lo + (k : Int))) = (rng lo hi).map xs by unfold rng; rw [List.map_map]; rfl] at hN2
    exact q Dl as H' (fresh_back e1 p1) (e1.trans p2) hN2)⟩
/-- over a new list of ints -/
theorem en_lcNL {ms : List Int} {j : Nat} {vs : List Nat} (xs : Int → List Int) (h : EvL tl σ H (ms.map V.int)) (hz : ms.length ≤ 40000) (hw : ∀ x, wipe ((wipe σ vs).set j (some x)) vs = wipe σ vs)
    (he : ∀ m ∈ ms, ∀ H1, Ex H H1 → EvL te ((wipe σ vs).set j (some (.int m))) H1 ((xs m).map V.int)) :
    EvN (tLc (iList K tl) (gName j) tYes te vs) σ H (ms.map xs) := fun H0 e Q q => h H0 e _ fun a H1 ha e1 hx => ⟨a, rfl, ⟨ms.map V.int, sq_of hx⟩, fun Dl hD =>
  lc_list (xs := ms.map V.int) (fun i H' => NW H1 Dl ((ms.take i).map xs) H') (nw_zero hD) (fun i H' _ p => sq_of (p.2.1 a _ hx))
    (fun i x H' hi p => by
      rw [List.getElem?_map] at hi
      cases em : ms[i]? with
      | none =>
        rw [em] at hi
        cases hi
      | some m =>
        rw [em] at hi
        have ex : V.int m = x := Option.some.inj hi
        subst ex
        have hlt := (List.getElem?_eq_some_iff.mp em).1
        rw [wd em, List.map_append]
        exact ⟨hw _, nw_turn (ns := xs m) p (by rw [List.length_map, List.length_take]; omega) fun H2 e2 => he m (List.mem_of_getElem? em) H2 ((e.trans e1).trans e2)⟩)
    (fun H' p => by
      obtain ⟨p1, p2, as, hN⟩ := p
      rw [List.length_map, List.take_length] at hN
      exact q Dl as H' (fresh_back e1 p1) (e1.trans p2) (hN.back e1))⟩
/-- [[]] -/
theorem en_one : EvN (tLst (tCons (tLst tNil) tNil)) σ H [[]] := fun H1 e Q q => ⟨Nat.zero_le _, fun a ha => ⟨by show 1 ≤ sizeLine; decide, fun p hp => by
  have hpa : p ≠ a := fun e => by
    rw [e, upd_same] at hp
    cases hp
  have hp0 : H1 p = none := by
    rw [upd_ne hpa] at hp
    exact hp
  refine q p [a] _ hp0 ((Ex.new ha).trans (Ex.new hp)) ⟨upd_same, by simpa using hpa, fun b hb => ?_, ?_⟩
  · have : b = a := by simpa using hb
    rw [this]
    exact ha
  · show [upd (upd H1 a (.lst [])) p _ a] = _
    rw [upd_ne hpa.symm, upd_same]
    rfl⟩⟩
theorem en_call {sp : Sp} {dvs vs : List V} {xss : List (List Int)} {E : XK} {ta : TA} (h : EvA ta σ H vs) (hs : SpN sp (vs ++ dvs) H xss) : EvN (tCall sp dvs E ta) σ H xss := fun H1 e Q q =>
  h H1 e _ fun H2 e2 => hs H2 (e.trans e2) Q (fun p as H3 hp e3 h3 => q p as H3 (fresh_back e2 hp) (e2.trans e3) (h3.back e2)) E
theorem en_is {xss yss : List (List Int)} (h : EvN te σ H xss) (e : xss = yss) : EvN te σ H yss := by
  rw [← e]
  exact h
theorem q_asgN {i : Nat} {xss : List (List Int)} (h : EvN te σ H xss) (k : ∀ p as H1, H p = none → Ex H H1 → Nst H H1 p as xss → tz D (σ.set i (some (.ref p))) H1) : tSeq (tAsg te (gName i)) tz D σ H := h H (Ex.refl H) _ fun p as H1 hp e h1 => k p as H1 hp e h1
theorem s_retN {xss : List (List Int)} (h : EvN te σ H xss) (k : ∀ p as H1, H p = none → Ex H H1 → Nst H H1 p as xss → D.rt (.ref p) H1) : tRet te D σ H := h H (Ex.refl H) _ k
theorem s_extN {l : Addr} {xs : List V} {yss : List (List Int)} (hl : H l = some (.lst xs)) (ha : Ev ta σ H (.ref l)) (h : EvN te σ H yss) (hz : xs.length + yss.length ≤ 100000) (k : ∀ p as H2, H p = none → Ex H H2 → Nst H H2 p as yss → D.nx σ (upd H2 l (.lst (xs ++ as.map V.ref)))) :
    tDrop (tBM K "list" rExtend ta (tCons te tNil)) D σ H := ha H (Ex.refl H) _ fun H1 e1 =>
  ⟨Or.inl ⟨rfl, xs, sq_of (e1 l _ hl)⟩, h H1 e1 _ fun p as H2 hp e2 hN => ⟨l, p, xs, as.map V.ref, rfl, rfl, e2 l _ (e1 l _ hl), hN.top, by
    have := hN.len
    refine sz_of ?_
    rw [List.length_map, this]
    exact hz, k p as H2 (fresh_back e1 hp) (e1.trans e2) (hN.back e1)⟩⟩
/-- what is walked comes as some value -/
theorem q_forLP {R : Addr → List V → Hp → Prop} {j : Nat} (h : EvP tl σ H fun v H1 => ∃ p xs, v = .ref p ∧ SqL K H1 p xs ∧ R p xs H1)
    (k : ∀ p xs H1, Ex H H1 → SqL K H1 p xs → R p xs H1 → tSeq (tFor (iList K (tC (.ref p))) (gName j) tu) tz D σ H1) : tSeq (tFor (iList K tl) (gName j) tu) tz D σ H :=
  h H (Ex.refl H) _ fun v H1 e ⟨p, xs, ev, hx, hR⟩ => by
    subst ev
    exact k p xs H1 e hx hR
theorem q_forN {xss : List (List Int)} {j : Nat} (h : EvN tl σ H xss) (k : ∀ p as H1, H p = none → Ex H H1 → Nst H H1 p as xss → tSeq (tFor (iList K (tC (.ref p))) (gName j) tu) tz D σ H1) : tSeq (tFor (iList K tl) (gName j) tu) tz D σ H :=
  h H (Ex.refl H) _ fun p as H1 hp e hN => k p as H1 hp e hN
theorem s_forN {xss : List (List Int)} {j : Nat} (h : EvN tl σ H xss) (k : ∀ p as H1, H p = none → Ex H H1 → Nst H H1 p as xss → tFor (iList K (tC (.ref p))) (gName j) tu D σ H1) : tFor (iList K tl) (gName j) tu D σ H :=
  h H (Ex.refl H) _ fun p as H1 hp e hN => k p as H1 hp e hN
/-- for i, x in enumerate(xs) -/
theorem q_forEnum {ta : TA} {i j : Nat} {a : Addr} {xs : List V} (h : EvA ta σ H [.ref a]) (hx : SqL K H a xs) (Pv : Nat → L2.St → Hp → Prop) (h0 : ∀ H1, Ex H H1 → Pv 0 σ H1) (hG : ∀ k σ' H', k ≤ xs.length → Pv k σ' H' → SqL K H' a xs)
    (hs : ∀ (k : Nat) x σ' H' H2, xs[k]? = some x → Pv k σ' H' → Ex H' H2 → tu { D with nx := Pv (k + 1), ct := Pv (k + 1), bk := tz D } ((σ'.set i (some (.int (k : Int)))).set j (some x)) H2) (hd : ∀ σ' H', Pv xs.length σ' H' → tz D σ' H') :
    tSeq (tFor (iEnum K ta) (gTup K 2 (gCons (gName i) (gCons (gName j) gNil))) tu) tz D σ H :=
  h H (Ex.refl H) _ fun H1 e => ⟨a, xs, rfl, ex_l e hx, for_it (D := { D with nx := tz D }) walk_enum Pv (h0 H1 e) hG (fun k x σ' H' H2 _ p y => by
    obtain ⟨T, v1, v2, e1, nT, e2, e3, e4⟩ := y
    subst e1 e2
    have e3' : V.int (k : Nat) = v1 := Option.some.inj e3
    subst e3'
    exact ⟨T, _, rfl, st_of upd_same, rfl, _, _, rfl, _, _, rfl, rfl, hs k v2 σ' H' _ e4 p (Ex.new nT)⟩) hd⟩
/-- l + r, both new lists | xs + r -/
theorem el_catNN {xs ys : List V} (ha : EvL ta σ H xs) (hb : EvL tb σ H ys) (hz : xs.length + ys.length ≤ 100000) : EvL (tOp rCat ta tb) σ H (xs ++ ys) := fun H1 e Q q =>
  ha H1 e _ fun p H2 np e2 hp => hb H2 (e.trans e2) _ fun r H3 _ e3 hr => ⟨p, r, xs, ys, rfl, rfl, e3 p _ hp, hr, sz_of hz, fun s hs => q s _ (fresh_back (e2.trans e3) hs) ((e2.trans e3).trans (Ex.new hs)) upd_same⟩
theorem el_catN {l : Addr} {xs ys : List V} (ha : Ev ta σ H (.ref l)) (hl : H l = some (.lst xs)) (hb : EvL tb σ H ys) (hz : xs.length + ys.length ≤ 100000) : EvL (tOp rCat ta tb) σ H (xs ++ ys) := fun H1 e Q q =>
  ha H1 e _ fun H2 e2 => hb H2 (e.trans e2) _ fun r H3 _ e3 hr => ⟨l, r, xs, ys, rfl, rfl, ((e.trans e2).trans e3) l _ hl, hr, sz_of hz, fun s hs => q s _ (fresh_back (e2.trans e3) hs) ((e2.trans e3).trans (Ex.new hs)) upd_same⟩
/-- xs.index(y), the first one -/
theorem ev_index {l : Addr} {ns : List Int} {m : Int} (ha : Ev ta σ H (.ref l)) (hl : SqL K H l (ns.map V.int)) (hb : Ev tb σ H (.int m)) {j : Nat} (hj : ns[j]? = some m) (hf : ∀ i k, i < j → ns[i]? = some k → k ≠ m) : Ev (tBM K "list" (rIndex K) ta (tCons tb tNil)) σ H (.int (j : Int)) := fun H1 e Q q =>
  ha H1 e _ fun H2 e2 => ⟨Or.inl ⟨rfl, _, ex_l (e.trans e2) hl⟩, hb H2 (e.trans e2) _ fun H3 e3 => ⟨l, ns.map V.int, .int m, j, .int m, rfl, rfl, ex_l ((e.trans e2).trans e3) hl, rfl, by
    rw [List.all_map]
    exact List.all_eq_true.mpr fun _ _ => rfl, by rw [List.getElem?_map, hj]; rfl, by simp [eqV], fun i z' hi hz => by
    rw [List.getElem?_map] at hz
    cases ek : ns[i]? with
    | none =>
      rw [ek] at hz
      cases hz
    | some k =>
      rw [ek] at hz
      have e5 : V.int k = z' := Option.some.inj hz
      subst e5
      have := hf i k hi ek
      simp [eqV, this], q H3 (e2.trans e3)⟩⟩
theorem flat_ints (ns : List Int) : (ns.map V.int).all flatV = true := by
  rw [List.all_map]
  exact List.all_eq_true.mpr fun _ _ => rfl
theorem in_ints {ns : List Int} {m : Int} : inV (.int m) (ns.map V.int) = decide (m ∈ ns) := by
  induction ns with
  | nil => simp [inV]
  | cons n ns ih =>
    unfold inV at ih ⊢
    rw [List.map_cons, List.any_cons, ih]
    by_cases h : m = n
    · subst h
      simp [eqV]
    · have h' : ¬ n = m := fun e => h e.symm
      simp [eqV, h, h']
end
end Sl
namespace Sl
open PySem PySem.Spec PyProof.Rows L2 Evl
theorem Nst.extend {H0 H H2 : Hp} {l p : Addr} {bs as : List Addr} {xss yss : List (List Int)} (h : Nst H0 H l bs xss) (e0 : Ex H0 H) (e : Ex H H2) (g : Nst H H2 p as yss) : Nst H0 (upd H2 l (.lst (bs.map V.ref ++ as.map V.ref))) l (bs ++ as) (xss ++ yss) := by
  have n1 := List.nodup_cons.mp h.nd
  have n2 := (List.nodup_cons.mp g.nd).2
  have la : l ∉ as := fun q => by
    have := g.new l q
    rw [h.top] at this
    cases this
  have hl : ∀ a ∈ bs ++ as, upd H2 l (.lst (bs.map V.ref ++ as.map V.ref)) a = H2 a := fun a ha => by
    refine upd_ne fun q => ?_
    rw [q] at ha
    rcases List.mem_append.mp ha with q | q
    · exact n1.1 q
    · exact la q
  refine ⟨by rw [upd_same, List.map_append], List.nodup_cons.mpr ⟨fun q => ?_, ?_⟩, fun a ha => ?_, ?_⟩
  · rcases List.mem_append.mp q with q | q
    · exact n1.1 q
    · exact la q
  · rw [List.nodup_append]
    refine ⟨n1.2, n2, fun a ha b hb q => ?_⟩
    obtain ⟨ns, _, h2⟩ := h.mem ha
    have := g.new b hb
    rw [← q, h2] at this
    cases this
  · rcases List.mem_append.mp ha with q | q
    · exact h.new a q
    · exact fresh_back e0 (g.new a q)
  · rw [List.map_congr_left hl, List.map_append, List.map_append, map_ex e h.all, g.all]
theorem last_at {s : List Int} {y : Int} (h : s.getLast? = some y) : atI (s.map V.int) (-1) = some (.int y) := by
  rcases List.eq_nil_or_concat s with e | ⟨m, z, e⟩
  · rw [e] at h
    cases h
  · rw [List.concat_eq_append] at e
    subst e
    rw [List.getLast?_concat] at h
    cases h
    rw [List.map_append]
    exact atI_last _ _
theorem getLast_ne {s : List Int} (h : s ≠ []) : ∃ y, s.getLast? = some y := by
  cases e : s.getLast? with
  | none => exact absurd (List.getLast?_eq_none_iff.mp e) h
  | some y => exact ⟨y, rfl⟩
end Sl
namespace Sl
open PySem PySem.Spec PyProof.Rows L2 Evl
theorem pe_revLK {X : Cx} {K : PySem.W.Frag} {e : Expr} {te : TE} {k : Nat} {p1 p2 p3 pos : Pos} (hK : X.K = K) (he : PE X e te) : PE X (.Subscript e (.Slice none none (some (.UnaryOp .USub (.Constant (.int 1) k p1) p2)) p3) pos) (tRevL K te) := by
  subst hK
  exact pe_revL he
theorem pi_listK {X : Cx} {K : PySem.W.Frag} {tg l : Expr} {tl : TE} (hK : X.K = K) (hl : PE X l tl) : PI X tg l (iList K tl) := by
  subst hK
  exact pi_list hl
end Sl
namespace Sl
open PySem PySem.Spec PyProof.Rows L2 Evl
/-! ### dicts by their int keys, in order -/
structure KI (kvs : List (Key × V)) (ks : List Int) : Prop where
  keys : kvs.map (·.1) = ks.map Sum.inl
  nd : ks.Nodup
theorem KI.nil : KI [] [] := ⟨rfl, by simp⟩
theorem KI.len {kvs : List (Key × V)} {ks : List Int} (h : KI kvs ks) : kvs.length = ks.length := by
  have := congrArg List.length h.keys
  simpa using this
theorem KI.vals {kvs : List (Key × V)} {ks : List Int} (h : KI kvs ks) : (kvs.map fun kv => kV kv.1) = ks.map V.int := by
  have e : (kvs.map fun kv => kV kv.1) = (kvs.map (·.1)).map kV := by rw [List.map_map]; rfl
  rw [e, h.keys, List.map_map]
  rfl
theorem KI.some_iff {kvs : List (Key × V)} {ks : List Int} (h : KI kvs ks) (k : Int) : (valV kvs (.inl k)).isSome = true ↔ k ∈ ks := by
  have e : (Sum.inl k : Key) ∈ kvs.map (·.1) ↔ k ∈ ks := by
    rw [h.keys, List.mem_map]
    constructor
    · rintro ⟨x, hx, q⟩
      cases q
      exact hx
    · intro hk
      exact ⟨k, hk, rfl⟩
  rw [← e]
  cases q : valV kvs (.inl k) with
  | none =>
    have := valV_not q
    simp [this]
  | some v =>
    have := valV_in q
    simp only [Option.isSome_some, true_iff]
    exact this
theorem KI.none_iff {kvs : List (Key × V)} {ks : List Int} (h : KI kvs ks) (k : Int) : valV kvs (.inl k) = none ↔ k ∉ ks := by
  rw [← h.some_iff k]
  cases valV kvs (.inl k) <;> simp
theorem KI.put {kvs : List (Key × V)} {ks : List Int} (h : KI kvs ks) (k : Int) (v : V) : KI (putK kvs (.inl k) v) (if k ∈ ks then ks else ks ++ [k]) := by
  by_cases hk : k ∈ ks
  · rw [if_pos hk]
    refine ⟨?_, h.nd⟩
    unfold putK
    rw [valV_any, if_pos ((h.some_iff k).mpr hk), List.map_map, ← h.keys]
    refine List.map_congr_left fun kv _ => ?_
    show (if kv.1 = Sum.inl k then (kv.1, v) else kv).1 = kv.1
    split <;> rfl
  · rw [if_neg hk, putK_new _ ((h.none_iff k).mpr hk)]
    refine ⟨?_, ?_⟩
    · rw [List.map_append, h.keys, List.map_append]
      rfl
    · rw [List.nodup_append]
      refine ⟨h.nd, by simp, fun a ha b hb e => ?_⟩
      have : b = k := by simpa using hb
      rw [← this, ← e] at hk
      exact hk ha
theorem valV_putI (kvs : List (Key × V)) (k j : Int) (v : V) : valV (putK kvs (.inl k) v) (.inl j) = if j = k then some v else valV kvs (.inl j) := by
  rw [valV_put]
  by_cases e : j = k
  · rw [if_pos (by rw [e]), if_pos e]
  · rw [if_neg (fun q => e (Sum.inl.inj q)), if_neg e]
/-- all but d stands as before -/
def ExB (d : Addr) (H H2 : Hp) : Prop := ∀ a o, a ≠ d → H a = some o → H2 a = some o
theorem Ex.exB {d : Addr} {H H2 : Hp} (e : Ex H H2) : ExB d H H2 := fun a o _ h => e a o h
theorem ExB.trans {d : Addr} {H H1 H2 : Hp} (e : ExB d H H1) (e2 : ExB d H1 H2) : ExB d H H2 := fun a o n h => e2 a o n (e a o n h)
theorem ExB.ex {d : Addr} {H H1 H2 : Hp} (e : ExB d H H1) (e2 : Ex H1 H2) : ExB d H H2 := fun a o n h => e2 a o (e a o n h)
theorem ExB.upd {d : Addr} {H H2 : Hp} {o : HO} (e : ExB d H H2) : ExB d H (upd H2 d o) := fun a u n h => by
  rw [upd_ne n]
  exact e a u n h
/-- of what H did not know d may change -/
theorem ExB.base {d : Addr} {H0 H H2 : Hp} (e0 : Ex H0 H) (e : ExB d H H2) (n : H0 d = none) : Ex H0 H2 := fun a o h => e a o (ne_of_none h n) (e0 a o h)
/-- each told number with the least one of its round -/
structure Snd (f : Int → Int) (S : List Int) (kvs : List (Key × V)) : Prop where
  ki : ∃ ks, KI kvs ks ∧ ∀ k ∈ ks, k ∈ S
  ok : ∀ k v, valV kvs (.inl k) = some v → ∃ r, v = .int r ∧ IsLst f k r
theorem Snd.nil {f : Int → Int} {S : List Int} : Snd f S [] := ⟨⟨[], KI.nil, fun _ h => nomatch h⟩, fun _ _ h => nomatch h⟩
theorem Snd.put {f : Int → Int} {S : List Int} {kvs : List (Key × V)} (h : Snd f S kvs) {k r : Int} (hk : k ∈ S) (hr : IsLst f k r) : Snd f S (putK kvs (.inl k) (.int r)) := by
  obtain ⟨ks, h1, h2⟩ := h.ki
  refine ⟨⟨_, h1.put k _, fun j hj => ?_⟩, fun j v hv => ?_⟩
  · split at hj
    · exact h2 j hj
    · rcases List.mem_append.mp hj with q | q
      · exact h2 j q
      · have : j = k := by simpa using q
        rw [this]
        exact hk
  · rw [valV_putI] at hv
    split at hv
    · rename_i e
      rw [e]
      exact ⟨r, (Option.some.inj hv).symm, hr⟩
    · exact h.ok j v hv
theorem Snd.len {f : Int → Int} {S : List Int} {kvs : List (Key × V)} (h : Snd f S kvs) : kvs.length ≤ S.length := by
  obtain ⟨ks, h1, h2⟩ := h.ki
  rw [h1.len]
  exact h1.nd.length_le_of_subset h2
end Sl
namespace Sl
open PySem PySem.Spec PyProof.Rows L2 Evl
/-! ### comprehensions, place by place -/
section
variable {K : PySem.W.Frag} {σ : L2.St} {H H' : Hp} {ta tb tc te tx tl td : TE} {t u : TT} {x y z v : V} {r r' : R2} {D : Ends} {tu tw tz : TS} {g : TG} {j : Nat} {vs : List Nat} {xs zs : List V}
/-- the word: so many of zs are there -/
def LW (H1 : Hp) (Dl : Addr) (zs : List V) (i : Nat) (H' : Hp) : Prop := H1 Dl = none ∧ Ex H1 H' ∧ H' Dl = some (.lst (zs.take i))
theorem lw_zero {H1 : Hp} {Dl : Addr} (h : H1 Dl = none) : LW H1 Dl zs 0 (upd H1 Dl (.lst [])) := ⟨h, Ex.new h, upd_same⟩
theorem lw_turn {H1 : Hp} {Dl : Addr} {i : Nat} {z : V} {σ2 : L2.St} (hz : zs[i]? = some z) (hl : zs.length ≤ 40000) (p : LW H1 Dl zs i H') (he : ∀ H2, Ex H1 H2 → Ev te σ2 H2 z) :
    tYes σ2 H' fun b H3 => if b = true then te σ2 H3 fun y H4 => ∃ acc, H4 Dl = some (.lst acc) ∧ acc.length < sizeLine ∧ LW H1 Dl zs (i + 1) (upd H4 Dl (.lst (acc ++ [y]))) else LW H1 Dl zs (i + 1) H3 := by
  obtain ⟨p1, p2, p3⟩ := p
  unfold tYes
  refine iteT ?_
  refine he H' p2 H' (Ex.refl H') _ fun H4 e4 => ⟨_, e4 Dl _ p3, sz_lt ?_, p1, Ex.mut (p2.trans e4) p1, ?_⟩
  · rw [List.length_take]
    omega
  · rw [upd_same, wd hz]
theorem get_of_len {i : Nat} {x : V} (hl : zs.length = xs.length) (h : xs[i]? = some x) : ∃ z, zs[i]? = some z := by
  have := (List.getElem?_eq_some_iff.mp h).1
  exact ⟨zs[i]'(by omega), List.getElem?_eq_getElem _⟩
/-- over a list -/
theorem el_zipL {a : Addr} (h : Ev tl σ H (.ref a)) (hx : SqL K H a xs) (hl : zs.length = xs.length) (hz : zs.length ≤ 40000) (hw : ∀ x, wipe ((wipe σ vs).set j (some x)) vs = wipe σ vs) (he : ∀ (i : Nat) x z, xs[i]? = some x → zs[i]? = some z → ∀ H1, Ex H H1 → Ev te ((wipe σ vs).set j (some x)) H1 z) :
    EvL (tLc (iList K tl) (gName j) tYes te vs) σ H zs := fun H0 e Q q => h H0 e _ fun H1 e1 => ⟨a, rfl, ⟨xs, ex_l (e.trans e1) hx⟩, fun Dl hD =>
  lc_list (xs := xs) (fun i H' => LW H1 Dl zs i H') (lw_zero hD) (fun i H' _ p => ex_l ((e.trans e1).trans p.2.1) hx)
    (fun i x H' hi p => by
      obtain ⟨z, ez⟩ := get_of_len hl hi
      exact ⟨hw x, lw_turn ez hz p fun H2 e2 => he i x z hi ez H2 ((e.trans e1).trans e2)⟩)
    (fun H' p => q Dl H' (fresh_back e1 p.1) (e1.trans p.2.1) (by rw [p.2.2, ← hl, List.take_length]))⟩
/-- over new lists -/
theorem el_zipN {xss : List (List Int)} (h : EvN tl σ H xss) (hl : zs.length = xss.length) (hz : zs.length ≤ 40000) (hw : ∀ x, wipe ((wipe σ vs).set j (some x)) vs = wipe σ vs) (he : ∀ (i : Nat) a ns z, xss[i]? = some ns → zs[i]? = some z → ∀ H1, Ex H H1 → H1 a = some (.lst (ns.map V.int)) → Ev te ((wipe σ vs).set j (some (.ref a))) H1 z) :
    EvL (tLc (iList K tl) (gName j) tYes te vs) σ H zs := fun H0 e Q q => h H0 e _ fun a as H1 ha e1 hN => ⟨a, rfl, ⟨_, sq_of hN.top⟩, fun Dl hD =>
  lc_list (xs := as.map V.ref) (fun i H' => LW H1 Dl zs i H') (lw_zero hD) (fun i H' _ p => sq_of (hN.ex p.2.1).top)
    (fun i x H' hi p => by
      obtain ⟨z, ez⟩ := get_of_len (zs := zs) (by rw [hl, List.length_map, hN.len]) hi
      rw [List.getElem?_map] at hi
      cases ea : as[i]? with
      | none =>
        rw [ea] at hi
        cases hi
      | some b =>
        rw [ea] at hi
        have ex : V.ref b = x := Option.some.inj hi
        subst ex
        obtain ⟨ns, en, hb⟩ := hN.get ea
        exact ⟨hw _, lw_turn ez hz p fun H2 e2 => he i b ns z en ez H2 ((e.trans e1).trans e2) (e2 b _ hb)⟩)
    (fun H' p => q Dl H' (fresh_back e1 p.1) (e1.trans p.2.1) (by rw [p.2.2, List.length_map, hN.len, ← hl, List.take_length]))⟩
/-- over a list of lists that stands -/
theorem el_zipA {a : Addr} {as : List Addr} {xss : List (List Int)} {Hb : Hp} (h : Ev tl σ H (.ref a)) (hN : Nst Hb H a as xss) (hl : zs.length = xss.length) (hz : zs.length ≤ 40000) (hw : ∀ x, wipe ((wipe σ vs).set j (some x)) vs = wipe σ vs) (he : ∀ (i : Nat) b ns z, xss[i]? = some ns → zs[i]? = some z → ∀ H1, Ex H H1 → H1 b = some (.lst (ns.map V.int)) → Ev te ((wipe σ vs).set j (some (.ref b))) H1 z) :
    EvL (tLc (iList K tl) (gName j) tYes te vs) σ H zs :=
  el_zipL h (sq_of hN.top) (by rw [hl, List.length_map, hN.len]) hz hw fun i x z hi ez H1 e1 => by
    rw [List.getElem?_map] at hi
    cases ea : as[i]? with
    | none =>
      rw [ea] at hi
      cases hi
    | some b =>
      rw [ea] at hi
      have ex : V.ref b = x := Option.some.inj hi
      subst ex
      obtain ⟨ns, en, hb⟩ := hN.get ea
      exact he i b ns z en ez H1 e1 (e1 b _ hb)
/-- two lists as arguments -/
def EvA2 (K : PySem.W.Frag) (ta : TA) (σ : L2.St) (H : Hp) (xs ys : List V) : Prop := ∀ H1, Ex H H1 → ∀ Q : List V → Hp → Prop, (∀ a b H2, Ex H1 H2 → SqL K H2 a xs → SqL K H2 b ys → Q [.ref a, .ref b] H2) → ta σ H1 Q
theorem e2_vv {a b : Addr} {xs ys : List V} (h1 : Ev ta σ H (.ref a)) (h2 : Ev tb σ H (.ref b)) (s1 : SqL K H a xs) (s2 : SqL K H b ys) : EvA2 K (tCons ta (tCons tb tNil)) σ H xs ys := fun H1 e Q q =>
  h1 H1 e _ fun H2 e2 => h2 H2 (e.trans e2) _ fun H3 e3 => q a b H3 (e2.trans e3) (ex_l ((e.trans e2).trans e3) s1) (ex_l ((e.trans e2).trans e3) s2)
theorem e2_vn {a : Addr} {xs ys : List V} (h1 : Ev ta σ H (.ref a)) (h2 : EvL tb σ H ys) (s1 : SqL K H a xs) : EvA2 K (tCons ta (tCons tb tNil)) σ H xs ys := fun H1 e Q q =>
  h1 H1 e _ fun H2 e2 => h2 H2 (e.trans e2) _ fun b H3 _ e3 hb => q a b H3 (e2.trans e3) (ex_l ((e.trans e2).trans e3) s1) (sq_of hb)
theorem e2_nv {b : Addr} {xs ys : List V} (h1 : EvL ta σ H xs) (h2 : Ev tb σ H (.ref b)) (s2 : SqL K H b ys) : EvA2 K (tCons ta (tCons tb tNil)) σ H xs ys := fun H1 e Q q =>
  h1 H1 e _ fun a H2 _ e2 ha => h2 H2 (e.trans e2) _ fun H3 e3 => q a b H3 (e2.trans e3) (sq_of (e3 a _ ha)) (ex_l ((e.trans e2).trans e3) s2)
/-- [e for a, b in zip(xs, ys)] -/
theorem el_zip2 {ta : TA} {i : Nat} {xs ys : List V} (h : EvA2 K ta σ H xs ys) (hl : zs.length = min xs.length ys.length) (hz : zs.length ≤ 40000) (hw : ∀ x y, wipe (((wipe σ vs).set i (some x)).set j (some y)) vs = wipe σ vs) (he : ∀ (k : Nat) x y z, xs[k]? = some x → ys[k]? = some y → zs[k]? = some z → ∀ H1, Ex H H1 → Ev te (((wipe σ vs).set i (some x)).set j (some y)) H1 z) :
    EvL (tLc (iZip K ta) (gTup K 2 (gCons (gName i) (gCons (gName j) gNil))) tYes te vs) σ H zs := fun H0 e Q q => h H0 e _ fun a b H1 e1 ha hb => ⟨a, b, xs, ys, rfl, ha, hb, fun Dl hD =>
  lc_it (walk_zip (xs := xs) (ys := ys) rfl) (fun k H' => LW H1 Dl zs k H') (lw_zero hD) (fun k H' _ p => ⟨ex_l p.2.1 ha, ex_l p.2.1 hb⟩)
    (fun k x H2 H3 hk p y => by
      obtain ⟨T, v1, v2, e1', nT, e2', e3', e4'⟩ := y
      subst e1' e2'
      obtain ⟨z, ez⟩ : ∃ z, zs[k]? = some z := ⟨zs[k]'(by omega), List.getElem?_eq_getElem _⟩
      refine ⟨T, _, rfl, st_of upd_same, rfl, _, _, rfl, _, _, rfl, rfl, hw _ _, ?_⟩
      have p' : LW H1 Dl zs k (upd H2 T (.tup [v1, v2])) := ⟨p.1, p.2.1.trans (Ex.new nT), by
        rw [upd_ne fun q => by rw [← q, p.2.2] at nT; cases nT]
        exact p.2.2⟩
      exact lw_turn ez hz p' fun H5 e5 => he k v1 v2 z e3' e4' ez H5 ((e.trans e1).trans e5))
    (fun H' p => q Dl H' (fresh_back e1 p.1) (e1.trans p.2.1) (by rw [p.2.2, ← hl, List.take_length]))⟩
/-- d = {} -/
theorem q_asgD {i : Nat} (k : ∀ d H1, H d = none → Ex H H1 → H1 d = some (.dK []) → tz D (σ.set i (some (.ref d))) H1) : tSeq (tAsg tDNewK (gName i)) tz D σ H := fun d hd => k d _ hd (Ex.new hd) upd_same
/-- a, b = {}, [] | {}, {} -/
theorem q_parDL {i j : Nat} (q : ∀ d p H1, H d = none → H p = none → p ≠ d → Ex H H1 → H1 d = some (.dK []) → H1 p = some (.lst []) → tz D ((σ.set i (some (.ref d))).set j (some (.ref p))) H1) : tSeq (tPar i j (tCons tDNewK (tCons (tLst tNil) tNil))) tz D σ H :=
  fun d hd => ⟨Nat.zero_le _, fun p hp => ⟨_, _, rfl, by
    have npd : p ≠ d := fun e => by
      rw [e, upd_same] at hp
      cases hp
    have hp0 : H p = none := by
      rw [upd_ne npd] at hp
      exact hp
    exact q d p _ hd hp0 npd ((Ex.new hd).trans (Ex.new hp)) (by rw [upd_ne npd.symm, upd_same]) upd_same⟩⟩
theorem q_parDD {i j : Nat} (q : ∀ d p H1, H d = none → H p = none → p ≠ d → Ex H H1 → H1 d = some (.dK []) → H1 p = some (.dK []) → tz D ((σ.set i (some (.ref d))).set j (some (.ref p))) H1) : tSeq (tPar i j (tCons tDNewK (tCons tDNewK tNil))) tz D σ H :=
  fun d hd p hp => ⟨_, _, rfl, by
    have npd : p ≠ d := fun e => by
      rw [e, upd_same] at hp
      cases hp
    have hp0 : H p = none := by
      rw [upd_ne npd] at hp
      exact hp
    exact q d p _ hd hp0 npd ((Ex.new hd).trans (Ex.new hp)) (by rw [upd_ne npd.symm, upd_same]) upd_same⟩
theorem et_yes : EvT tYes σ H true := fun H1 _ Q q => q H1 (Ex.refl H1)
end
/-- a course's numbers, then the first: the promise of least_first(course_of(..)[0]) -/
theorem hits_lst {f : Int → Int} {rs : List Int} (hr : ∀ r ∈ rs, IsLst f r r) : ∀ (k : Nat) (n : Int), (it f k n ∈ rs) → ∃ r ∈ rs, IsLst f n r := fun k n h => ⟨_, h, IsLst.ups (hr _ h)⟩
/-- within so many steps it is among rs -/
def hits (f : Int → Int) (rs : List Int) : Nat → Int → Bool
  | 0, n => rs.contains n
  | k + 1, n => rs.contains n || hits f rs k (f n)
theorem hits_of {f : Int → Int} {rs : List Int} (hr : ∀ r ∈ rs, IsLst f r r) : ∀ (k : Nat) (n : Int), hits f rs k n = true → ∃ r ∈ rs, IsLst f n r
  | 0, n, h => ⟨n, by simpa [hits] using h, hr n (by simpa [hits] using h)⟩
  | k + 1, n, h => by
    unfold hits at h
    rw [Bool.or_eq_true] at h
    rcases h with h | h
    · have : n ∈ rs := by simpa using h
      exact ⟨n, this, hr n this⟩
    · obtain ⟨r, h1, h2⟩ := hits_of hr k (f n) h
      exact ⟨r, h1, h2.up⟩
end Sl
namespace Sl
open PySem PySem.Spec PyProof.Rows L2 Evl
/-- list(d) -/
def rListDD : List V → Hp → VK → Prop := fun xs H Q => ∃ (a : Addr) (kvs : List (Key × V)), xs = [.ref a] ∧ Rd H a (.dK kvs) ∧ ∀ p, H p = none → Q (.ref p) (upd H p (.lst (kvs.map fun kv => kV kv.1)))
section
variable {K : PySem.W.Frag} {σ : L2.St} {H H' : Hp} {ta tb tc te tx tl td : TE} {x y z v : V} {r r' : R2}
theorem el_listD {d : Addr} {kvs : List (Key × V)} (ha : Ev ta σ H (.ref d)) (h : H d = some (.dK kvs)) : EvL (tCB rListDD (tCons ta tNil)) σ H (kvs.map fun kv => kV kv.1) := fun H1 e Q q =>
  ha H1 e _ fun H2 e2 => ⟨d, kvs, rfl, .inl ((e.trans e2) d _ h), fun l hl => q l _ (fresh_back e2 hl) (e2.trans (Ex.new hl)) upd_same⟩
theorem en_lst1 {ns : List Int} (h : EvL ta σ H (ns.map V.int)) : EvN (tLst (tCons ta tNil)) σ H [ns] := fun H1 e Q q => h H1 e _ fun a H2 na e2 ha => ⟨by show 1 ≤ sizeLine; decide, fun p hp => by
  have hpa : p ≠ a := fun e => by
    rw [e, ha] at hp
    cases hp
  refine q p [a] _ (fresh_back e2 hp) (e2.trans (Ex.new hp)) ⟨upd_same, by simpa using hpa, fun b hb => ?_, ?_⟩
  · have : b = a := by simpa using hb
    rw [this]
    exact na
  · show [upd H2 p _ a] = _
    rw [upd_ne hpa.symm, ha]
    rfl⟩
theorem en_lst2 {ns ms : List Int} (h : EvL ta σ H (ns.map V.int)) (g : EvL tb σ H (ms.map V.int)) : EvN (tLst (tCons ta (tCons tb tNil))) σ H [ns, ms] := fun H1 e Q q => h H1 e _ fun a H2 na e2 ha => g H2 (e.trans e2) _ fun c H3 nc e3 hc => ⟨by show 2 ≤ sizeLine; decide, fun p hp => by
  have hpa : p ≠ a := fun e => by
    rw [e, e3 a _ ha] at hp
    cases hp
  have hpc : p ≠ c := fun e => by
    rw [e, hc] at hp
    cases hp
  have hac : a ≠ c := fun e => by
    rw [← e, ha] at nc
    cases nc
  refine q p [a, c] _ (fresh_back (e2.trans e3) hp) ((e2.trans e3).trans (Ex.new hp)) ⟨upd_same, by simp [hpa, hpc, hac], fun b hb => ?_, ?_⟩
  · simp only [List.mem_cons, List.not_mem_nil, or_false] at hb
    rcases hb with rfl | rfl
    · exact na
    · exact fresh_back e2 nc
  · show [upd H3 p _ a, upd H3 p _ c] = _
    rw [upd_ne hpa.symm, upd_ne hpc.symm, e3 a _ ha, hc]
    rfl⟩
theorem ev_opNN {xs ys : List (List Int)} (ha : EvN ta σ H xs) (hb : EvN tb σ H ys) (hr : ∀ p q as bs Ha Hb H1, Nst Ha H1 p as xs → Nst Hb H1 q bs ys → Ex H H1 → RV r (.ref p) (.ref q) H1 z) : Ev (tOp r ta tb) σ H z := fun H1 e Q k =>
  ha H1 e _ fun p as H2 _ e2 hp => hb H2 (e.trans e2) _ fun q bs H3 _ e3 hq => hr p q as bs _ _ H3 (hp.ex e3) hq ((e.trans e2).trans e3) H3 (Ex.refl H3) Q fun H4 e4 => k H4 ((e2.trans e3).trans e4)
theorem ev_eqNN {xs ys : List (List Int)} (ha : EvN ta σ H xs) (hb : EvN tb σ H ys) : Ev (tOp (rEqD K) ta tb) σ H (.bl (decide (xs = ys))) := ev_opNN ha hb fun _ _ _ _ _ _ _ hp hq _ => rv_eqLL (sq_of hp.top) hp.nest (sq_of hq.top) hq.nest
theorem ev_neNN {xs ys : List (List Int)} (ha : EvN ta σ H xs) (hb : EvN tb σ H ys) : Ev (tOp (rNeD K) ta tb) σ H (.bl (!decide (xs = ys))) := ev_opNN ha hb fun _ _ _ _ _ _ _ hp hq _ => rv_neLL (sq_of hp.top) hp.nest (sq_of hq.top) hq.nest
end
theorem lsts_of {b : Int} (hb : 2 ≤ b) {L : Nat} {rs : List Int} (hup : rs.Pairwise (· < ·)) (hr : ∀ r ∈ rs, (0 ≤ r ∧ r < pw b L) ∧ IsLst (stepM b L) r r) {k : Nat} (hh : ∀ ds ∈ falls b (L / 2), hits (stepM b L) rs k (mk b L ds) = true) : Lsts b L rs := by
  refine ⟨hup, fun r => ⟨fun h => ⟨r, (hr r h).1, (hr r h).2⟩, ?_⟩⟩
  rintro ⟨n, _, q⟩
  have q2 := q.down
  rw [step_difs] at q2
  obtain ⟨s, h1, h2⟩ := hits_of (fun r h => (hr r h).2) k _ (hh _ (fall_of_step (by omega) L n))
  rw [q2.one h2]
  exact h1
end Sl
namespace Sl
open PySem PySem.Spec PyProof.Rows L2 Evl
def rSortedDD : List V → Hp → VK → Prop := fun xs H Q => ∃ (a : Addr) (kvs : List (Key × V)) (ks : List Int), xs = [.ref a] ∧ Rd H a (.dK kvs) ∧ kvs.map (·.1) = ks.map Sum.inl ∧ ks.length < 64 ∧
  ∀ (ys : List Int) (p : Addr), ys.Perm ks → ys.Pairwise (· ≤ ·) → H p = none → Q (.ref p) (upd H p (.lst (ys.map V.int)))
section
variable {K : PySem.W.Frag} {σ : L2.St} {H H' : Hp} {ta tb tc te tx tl td : TE} {t u : TT} {x y z v : V} {r r' : R2} {D : Ends} {tu tw tz : TS} {g : TG} {j : Nat} {vs : List Nat} {xs zs : List V}
/-- sorted(d) -/
theorem el_sortedD {d : Addr} {kvs : List (Key × V)} {ks : List Int} (ha : Ev ta σ H (.ref d)) (h : H d = some (.dK kvs)) (hk : KI kvs ks) (hl : ks.length < 64) : EvL (tCB rSortedDD (tCons ta tNil)) σ H ((srt ks).map V.int) := fun H1 e Q q =>
  ha H1 e _ fun H2 e2 => ⟨d, kvs, ks, rfl, .inl ((e.trans e2) d _ h), hk.keys, hl, fun ys p perm rising np => by
    have e3 := srt_of perm rising
    subst e3
    exact q p _ (fresh_back e2 np) (e2.trans (Ex.new np)) upd_same⟩
/-- [e for x in range(lo, hi)] -/
theorem el_rng2 {ta : TA} {lo hi : Int} (f : Int → V) (h : EvA ta σ H [.int lo, .int hi]) (hn : 0 ≤ lo ∧ lo ≤ 20000 ∧ -20000 ≤ hi ∧ hi ≤ 20000) (hw : ∀ x, wipe ((wipe σ vs).set j (some x)) vs = wipe σ vs)
    (he : ∀ (i : Int) H1, Ex H H1 → lo ≤ i → i < hi → Ev te ((wipe σ vs).set j (some (.int i))) H1 (f i)) :
    EvL (tLc (iRng2 ta) (gName j) tYes te vs) σ H ((rng lo hi).map f) := fun H0 e Q q => h H0 e _ fun H1 e1 => ⟨lo, hi, rfl, ⟨by omega, by omega, by omega, by omega⟩, fun Dl hD =>
  lc_range (lo := lo) (n := (hi - lo).toNat) (fun i H' => LW H1 Dl ((rng lo hi).map f) i H') (lw_zero hD) (fun i H' hi2 p => by
    have ez : ((rng lo hi).map f)[i]? = some (f (lo + (i : Int))) := by
      unfold rng
      rw [List.getElem?_map, List.getElem?_map, List.getElem?_range hi2]
      rfl
    exact ⟨hw _, lw_turn ez (by unfold rng; simp; omega) p fun H2 e2 => he (lo + (i : Int)) H2 ((e.trans e1).trans e2) (by omega) (by omega)⟩) (fun H' p => by
    refine q Dl H' (fresh_back e1 p.1) (e1.trans p.2.1) ?_
    have hl : ((rng lo hi).map f).length = (hi - lo).toNat := by unfold rng; simp
    rw [p.2.2, ← hl, List.take_length])⟩
/-- [e for x in range(n)] -/
theorem el_rng1 {ta : TA} {n : Int} (f : Nat → V) (h : EvA ta σ H [.int n]) (hn : 0 ≤ n ∧ n ≤ 20000) (hw : ∀ x, wipe ((wipe σ vs).set j (some x)) vs = wipe σ vs)
    (he : ∀ (i : Nat) H1, Ex H H1 → (i : Int) < n → Ev te ((wipe σ vs).set j (some (.int (i : Int)))) H1 (f i)) :
    EvL (tLc (iRng1 ta) (gName j) tYes te vs) σ H ((List.range n.toNat).map f) := fun H0 e Q q => h H0 e _ fun H1 e1 => ⟨n, rfl, by omega, by omega, fun Dl hD =>
  lc_range (lo := 0) (n := n.toNat) (fun i H' => LW H1 Dl ((List.range n.toNat).map f) i H') (lw_zero hD) (fun i H' hi p => by
    have e0 : (0 : Int) + (i : Int) = (i : Int) := Int.zero_add _
    show wipe ((wipe σ vs).set j (some (.int ((0 : Int) + (i : Int))))) vs = wipe σ vs ∧ tYes ((wipe σ vs).set j (some (.int ((0 : Int) + (i : Int))))) H' fun b H3 => if b = true then te ((wipe σ vs).set j (some (.int ((0 : Int) + (i : Int))))) H3 fun y H4 => ∃ acc, H4 Dl = some (.lst acc) ∧ acc.length < sizeLine ∧ LW H1 Dl ((List.range n.toNat).map f) (i + 1) (upd H4 Dl (.lst (acc ++ [y]))) else LW H1 Dl ((List.range n.toNat).map f) (i + 1) H3
    rw [e0]
    have ez : ((List.range n.toNat).map f)[i]? = some (f i) := by
      rw [List.getElem?_map, List.getElem?_range hi]
      rfl
    exact ⟨hw _, lw_turn ez (by simp; omega) p fun H2 e2 => he i H2 ((e.trans e1).trans e2) (by omega)⟩) (fun H' p => by
    refine q Dl H' (fresh_back e1 p.1) (e1.trans p.2.1) ?_
    rw [p.2.2, List.take_of_length_le (by simp)])⟩
/-- f(a new list) -/
theorem ev_call1L {sp : Sp} {E : XK} {xs : List V} (hb : EvL tb σ H xs) (hs : ∀ p H1, Ex H H1 → H1 p = some (.lst xs) → SpV sp [.ref p] H1 z) : Ev (tCall sp [] E (tCons tb tNil)) σ H z := fun H1 e Q q =>
  hb H1 e _ fun p H3 _ e3 hp => hs p H3 (e.trans e3) hp H3 (Ex.refl H3) Q (fun H4 e4 => q H4 (e3.trans e4)) E
end
end Sl
namespace Sl
open PySem PySem.Spec PyProof.Rows L2 Evl
/-- a, b = {}, {} by a tuple -/
theorem q_tupDD {K : PySem.W.Frag} {σ : L2.St} {H : Hp} {D : Ends} {tz : TS} {i j : Nat} (q : ∀ d p H1, H d = none → H p = none → p ≠ d → Ex H H1 → H1 d = some (.dK []) → H1 p = some (.dK []) → tz D ((σ.set i (some (.ref d))).set j (some (.ref p))) H1) :
    tSeq (tAsg (tTup (tCons tDNewK (tCons tDNewK tNil))) (gTup K 2 (gCons (gName i) (gCons (gName j) gNil)))) tz D σ H :=
  fun d hd p hp => ⟨by show 2 ≤ sizeLine; decide, fun t ht => by
    have npd : p ≠ d := fun e => by
      rw [e, upd_same] at hp
      cases hp
    have hp0 : H p = none := by
      rw [upd_ne npd] at hp
      exact hp
    have td : t ≠ d := fun e => by
      rw [e, upd_ne npd.symm, upd_same] at ht
      cases ht
    have tp : t ≠ p := fun e => by
      rw [e, upd_same] at ht
      cases ht
    refine ⟨t, [.ref d, .ref p], rfl, st_of upd_same, rfl, _, _, rfl, _, _, rfl, rfl, ?_⟩
    exact q d p _ hd hp0 npd (((Ex.new hd).trans (Ex.new hp)).trans (Ex.new ht)) (by rw [upd_ne td.symm, upd_ne npd.symm, upd_same]) (by rw [upd_ne tp.symm, upd_same])⟩
end Sl
namespace Sl
open PySem PySem.Spec PyProof.Rows L2 Evl
def trues (n : Nat) (c : Bool) : List V := (List.replicate n c).map V.bl
theorem trues_at {n : Nat} {c : Bool} {i : Nat} {z : V} (h : (trues n c)[i]? = some z) : z = .bl c := by
  unfold trues at h
  have := List.mem_of_getElem? h
  rw [List.map_replicate] at this
  exact (List.mem_replicate.mp this).2
theorem trues_len (n : Nat) (c : Bool) : (trues n c).length = n := by simp [trues]
end Sl
namespace Sl
open PySem PySem.Spec PyProof.Rows L2 Evl
/-! ### classes -/
/-- where the module's class stands -/
def cA (mg : Str → Option Value) (x : Str) : Addr := match mg x with
  | some (.ref a) => a
  | _ => 0
theorem cA_of {mg : Str → Option Value} {x : Str} {C : Addr} (h : mg x = some (.ref C)) : cA mg x = C := by
  unfold cA
  rw [h]
/-- one of two readings -/
def tOr2 (t u : TE) : TE := fun σ H Q => t σ H Q ∨ u σ H Q
theorem pe_or2 {X : Cx} {e : Expr} {t u : TE} (h1 : PE X e t) (h2 : PE X e u) : PE X e (tOr2 t u) := ⟨fun pins s σ H Q I h => by
  rcases h with h | h
  · exact h1.run pins s σ H Q I h
  · exact h2.run pins s σ H Q I h⟩
/-- C(), no __init__ but object's -/
def tMakeO (C : Addr) : TE := fun _ H Q => ∀ x dx, H x = none → H dx = none → dx ≠ x → Q (.ref x) (upd (upd H dx (.own x)) x (.ins C dx []))
structure MkO (K : PySem.W.Frag) (C : Addr) : Prop where
  makes : PySem.W.makesIn K C = true
  init : PySem.W.findIn K (.ref C) "__init__" = some (some (.builtin "object.__init__"))
  kp : PySem.W.keepIn K (.ref C) = true
theorem pe_makeO {X : Cx} {C : Addr} {x : Str} {p pos : Pos} (M : MkO X.K C) (hg : Gl X x) (hm : X.mg x = some (.ref C)) (hdb : (x == ("__debug__" : Str)) = false := by decide) : PE X (.Call (.Name x p) [] [] pos) (tMakeO C) := by
  refine ⟨fun pins s σ H Q I h => ?_⟩
  refine wpAny_Call_Name_kw (ld_glob I hg hm ?_ hdb)
  refine PySem.W.callWith_K0 I.kIn M.kp ?_
  have hq := h (s.heap.objs.size + 1) s.heap.objs.size (I.hok.fresh (Nat.le_succ _)) (I.hok.fresh (Nat.le_refl _)) (Nat.ne_of_lt (Nat.lt_succ_self _))
  have I2 := Inv.made (C := C) I
  have Y := PySem.W.makes_of (M := model X.prog X.w) I.kIn M.makes
  refine wpAny_call (make_map0 I.kIn M.makes M.init (fun self => PySem.W.Looks.of_pure (PySem.W.oi_bind self)) ?_)
  have hx : ((s.heap.push PySem.W.emptyDict).push (PySem.W.instObj C s.heap.objs.size)).get? (s.heap.objs.size + 1) = some (PySem.W.instObj C s.heap.objs.size) := by
    have := Heap.get?_push_size (s.heap.push PySem.W.emptyDict) (o := PySem.W.instObj C s.heap.objs.size) rfl
    rwa [Heap.size_push] at this
  have t1 : PySem.W.Looks (model X.prog X.w) ((s.heap.push PySem.W.emptyDict).push (PySem.W.instObj C s.heap.objs.size)) (typeOf (.ref (s.heap.objs.size + 1))) (.ref C) := (PySem.W.Looks.ld hx).andThen .now
  have t2 : PySem.W.Looks (model X.prog X.w) ((s.heap.push PySem.W.emptyDict).push (PySem.W.instObj C s.heap.objs.size)) (isInstance (.ref (s.heap.objs.size + 1)) (.type "object")) true := t1.andThen (Y.top.keeps fun b o e => Heap.get?_push_of_some _ (Heap.get?_push_of_some _ e))
  refine codeAny_call_builtin PySem.W.oi_plain PySem.W.entry_oi (@PySem.W.check_slot (model X.prog X.w) _ _ _ "object.__init__" "object" "__init__" (.ref (s.heap.objs.size + 1)) [] [] _ PySem.W.oi_kind PySem.W.oi_split t2 (PySem.W.oi_args (.ref (s.heap.objs.size + 1))) ?_)
  rw [PySem.W.oi_run]
  exact wpAny_pure (And.intro rfl ⟨V.ref (s.heap.objs.size + 1), _, I2, rfl, hq⟩)
/-- a class with its __init__, a method -/
structure Mkr (P : Program) (w : World) (K : PySem.W.Frag) (mg : Str → Option Value) (base : Heap) (k : Nat) (C : Addr) (ps : List Str) (sp : Sp) : Prop where
  ex : ∃ (f : Addr) (fd : FuncData), Mk K C f ∧ FnOk P w K mg base CX0 k f fd ps sp ∧ Binds K fd ps []
structure Mth (P : Program) (w : World) (K : PySem.W.Frag) (mg : Str → Option Value) (base : Heap) (k : Nat) (C : Addr) (m : Str) (ps : List Str) (sp : Sp) : Prop where
  ex : ∃ (f : Addr) (fd : FuncData), Meth K C m f ∧ FnOk P w K mg base CX0 k f fd ps sp ∧ Binds K fd ps []
theorem pe_mk {X : Cx} {k : Nat} {C : Addr} {x : Str} {ps : List Str} {sp : Sp} {e : Expr} {es : List Expr} {t : TA} {p pos : Pos} (h : Mkr X.prog X.w X.K X.mg X.base k C ps sp) (hr : Room (k + 1) X.A) (hg : Gl X x) (hm : X.mg x = some (.ref C)) (ha : PA X (e :: es) t)
    (hdb : (x == ("__debug__" : Str)) = false := by decide) (he : starEach (e :: es) X.env = (false, eval e X.env) :: starEach es X.env := by rfl) (hpl : (backTo pos (starEach es X.env)).any (·.1) = false := by rfl) : PE X (.Call (.Name x p) (e :: es) [] pos) (tMake C sp [] E0 t) := by
  obtain ⟨f, fd, a, b, c⟩ := h.ex
  exact pe_make a b hr hg hm c .nil pass0 ha hdb he hpl
theorem pe_mt {X : Cx} {k : Nat} {C : Addr} {m : Str} {ps : List Str} {sp : Sp} {o e : Expr} {es : List Expr} {ta : TE} {t : TA} {apos pos : Pos} {pl : Sem Bool} (h : Mth X.prog X.w X.K X.mg X.base k C m ps sp) (c : Cls X.K C) (hr : Room k X.A) (he : PE X o ta) (ha : PA X (e :: es) t)
    (hst : starEach (e :: es) X.env = (false, eval e X.env) :: starEach es X.env := by rfl) (hpl : (backTo pos (starEach es X.env)).any (·.1) = false := by rfl)
    (ht : eval (.Call (.Attribute o m apos) (e :: es) [] pos) X.env = (do
      let ov ← eval o X.env
      standAt apos.atName
      let (f, first) ← holding [ov] (getMethod ov m pl)
      callWith pos f first (backTo pos (starEach (e :: es) X.env)) (backToKw pos (keywordEach [] X.env))) := by rfl) : PE X (.Call (.Attribute o m apos) (e :: es) [] pos) (tMeth C m sp [] E0 ta t) := by
  obtain ⟨f, fd, a, b, d⟩ := h.ex
  exact pe_meth he c a b hr d .nil pass0 ha hst hpl ht
section
variable {K : PySem.W.Frag} {σ : L2.St} {H H' : Hp} {ta tb tc te tx tl td : TE} {t u : TA} {x y z v : V} {D : Ends} {tu tw tz : TS}
theorem ev_fld {p C dx : Addr} {fs : List (Str × V)} {f : Str} (ha : Ev ta σ H (.ref p)) (h : H p = some (.ins C dx fs)) (c : Cls K C) (n : NoAttr K C f) (l : fs.lookup f = some v) : Ev (tFld K ta f) σ H v := fun H1 e Q q =>
  ha H1 e _ fun H2 e2 => ⟨p, C, dx, fs, v, rfl, (e.trans e2) p _ h, c, n, l, q H2 e2⟩
theorem ev_meth {p C dx : Addr} {fs : List (Str × V)} {m : Str} {sp : Sp} {E : XK} {vs : List V} (ha : Ev ta σ H (.ref p)) (h : H p = some (.ins C dx fs)) (l : fs.lookup m = none) (hv : EvA t σ H vs) (hs : SpV sp (.ref p :: vs) H z) : Ev (tMeth C m sp [] E ta t) σ H z := fun H1 e Q q =>
  ha H1 e _ fun H2 e2 => ⟨p, dx, fs, rfl, (e.trans e2) p _ h, l, hv H2 (e.trans e2) _ fun H3 e3 => by
    rw [List.append_nil]
    exact hs H3 ((e.trans e2).trans e3) Q (fun H4 e4 => q H4 ((e2.trans e3).trans e4)) E⟩
theorem ev_or2l (h : Ev ta σ H v) : Ev (tOr2 ta tb) σ H v := fun H1 e Q q => .inl (h H1 e Q q)
theorem ev_or2r (h : Ev tb σ H v) : Ev (tOr2 ta tb) σ H v := fun H1 e Q q => .inr (h H1 e Q q)
theorem ep_makeO {C : Addr} : EvP (tMakeO C) σ H fun v H2 => ∃ p dx, v = .ref p ∧ H p = none ∧ H2 p = some (.ins C dx []) := fun H1 e Q q x dx hx hdx ne =>
  q _ _ (fun a o h => by rw [upd_ne (ne_of_none h hx), upd_ne (ne_of_none h hdx)]; exact h) ⟨x, dx, rfl, fresh_back e hx, upd_same⟩
theorem s_retP {R : V → Hp → Prop} (h : EvP te σ H R) (k : ∀ v H1, Ex H H1 → R v H1 → D.rt v H1) : tRet te D σ H := h H (Ex.refl H) _ k
/-- isinstance of an own instance -/
structure TyI (K : PySem.W.Frag) (C : Addr) : Prop where
  ha : PySem.W.findIn K (.ref C) "__class__" = some (some (.builtin "object.__class__"))
  hn : PySem.W.specialIn K (.builtin "object.__class__") "__get__" = some (some (.builtin "getset_descriptor.__get__"))
  htk : PySem.W.takesIn K (.builtin "object.__class__") = some true
  hm : PySem.W.mroIn K C (.type "object") = some true
theorem rc_isi_own {p C dx A : Addr} {fs : List (Str × V)} {b : Bool} (h : H p = some (.ins C dx fs)) (c : Cls K C) (t : TyI K C) (k : PySem.W.kitOne K (.ref C) (.ref A) = some b) : RC (rIsi K) [.ref p, .ref A] H (.bl b) :=
  rc_isi (.own A) (fun _ e => .base (.ins (e p _ h) c t.ha t.hn t.htk t.hm)) k
/-- all(xs) of a list that stands -/
theorem ev_all {p : Addr} {bs : List Bool} (ha : Ev ta σ H (.ref p)) (h : SqL K H p (bs.map V.bl)) : Ev (tCB (rAll K) (tCons ta tNil)) σ H (.bl (bs.all id)) := fun H1 e Q q =>
  ha H1 e _ fun H2 e2 => ⟨p, bs, rfl, ex_l (e.trans e2) h, q H2 e2⟩
end
end Sl
namespace Sl
open PySem PySem.Spec PyProof.Rows L2 Evl
section
variable {K : PySem.W.Frag} {σ : L2.St} {H H' : Hp} {ta tb tc te tx tl td : TE} {t u : TA} {x y z v : V} {D : Ends} {tu tw tz : TS}
/-- a, b = [], e -/
theorem q_parLV {i j : Nat} (hb : Ev tb σ H y) (k : ∀ p H1, H p = none → Ex H H1 → H1 p = some (.lst []) → tz D ((σ.set i (some (.ref p))).set j (some y)) H1) : tSeq (tPar i j (tCons (tLst tNil) (tCons tb tNil))) tz D σ H :=
  ⟨Nat.zero_le _, fun p hp => hb _ (Ex.new hp) _ fun H2 e2 => ⟨_, _, rfl, k p H2 hp ((Ex.new hp).trans e2) (e2 p _ upd_same)⟩⟩
theorem el_catNV {l : Addr} {xs ys : List V} (ha : EvL ta σ H xs) (hb : Ev tb σ H (.ref l)) (hl : H l = some (.lst ys)) (hz : xs.length + ys.length ≤ 100000) : EvL (tOp rCat ta tb) σ H (xs ++ ys) := fun H1 e Q q =>
  ha H1 e _ fun p H2 _ e2 hp => hb H2 (e.trans e2) _ fun H3 e3 => ⟨p, l, xs, ys, rfl, rfl, e3 p _ hp, ((e.trans e2).trans e3) l _ hl, sz_of hz, fun s hs => q s _ (fresh_back (e2.trans e3) hs) ((e2.trans e3).trans (Ex.new hs)) upd_same⟩
def rMin2 : List V → Hp → VK → Prop := fun xs H Q => ∃ i j, xs = [.int i, .int j] ∧ Q (.int (if j < i then j else i)) H
theorem ev_min2 {i j : Int} (ha : Ev ta σ H (.int i)) (hb : Ev tb σ H (.int j)) : Ev (tCB rMin2 (tCons ta (tCons tb tNil))) σ H (.int (if j < i then j else i)) := fun H1 e Q q =>
  ha H1 e _ fun H2 e2 => hb H2 (e.trans e2) _ fun H3 e3 => ⟨i, j, rfl, q H3 (e2.trans e3)⟩
theorem rc_isi_bb {b : Bool} : RC (rIsi K) [.bl b, .ty "bool"] H (.bl true) := rc_isi (.ty "bool") (fun _ _ => .base (.bl b)) (kit_ty (by decide +kernel))
/-- lists of bools -/
def pB (bs : List Bool) : List PyData := bs.map PyData.bool
theorem dp_bools {K : PySem.W.Frag} {H : Hp} : ∀ bs : List Bool, DpAll K H (bs.map V.bl) (pB bs)
  | [] => .nil
  | b :: bs => .cons (.bl b) (dp_bools bs)
theorem eqv_bools : ∀ bs cs : List Bool, PyData.eqvAll (pB bs) (pB cs) = decide (bs = cs)
  | [], [] => by simp [pB, PyData.eqvAll]
  | [], m :: ms => by simp [pB, PyData.eqvAll]
  | n :: ns, [] => by simp [pB, PyData.eqvAll]
  | n :: ns, m :: ms => by
    have ih := eqv_bools ns ms
    unfold pB at ih
    simp only [pB, List.map_cons, PyData.eqvAll, PyData.eqv, ih]
    by_cases h1 : n = m
    · by_cases h2 : ns = ms
      · simp [h1, h2]
      · simp [h1, h2]
    · simp [h1]
theorem can_bools : ∀ ns : List Bool, PyData.canLayAll0 (pB ns) = true ∧ PyData.depthAll (pB ns) = 0
  | [] => by simp [pB, PyData.canLayAll0, PyData.depthAll]
  | n :: ns => by
    have ih := can_bools ns
    unfold pB at ih
    simp [pB, PyData.canLayAll0, PyData.canLay0, PyData.depthAll, PyData.depth, ih.1, ih.2]
theorem shaped_bools (ns : List Bool) : SeqAt.shaped (.list (pB ns)) = true := by
  have h := can_bools ns
  simp [SeqAt.shaped, PyData.canLay0, PyData.depth, h.1, h.2]
theorem rv_neB {p q : Addr} {ns ms : List Bool} (h1 : SqL K H p (ns.map V.bl)) (h2 : SqL K H q (ms.map V.bl)) : RV (rNeD K) (.ref p) (.ref q) H (.bl (!decide (ns = ms))) :=
  rv_neD (fun _ e => .lst (ex_l e h1) (dp_bools ns)) (fun _ e => .lst (ex_l e h2) (dp_bools ms)) (shaped_bools ns) (shaped_bools ms) (by rw [← eqv_bools]; rfl)
theorem rv_eqB {p q : Addr} {ns ms : List Bool} (h1 : SqL K H p (ns.map V.bl)) (h2 : SqL K H q (ms.map V.bl)) : RV (rEqD K) (.ref p) (.ref q) H (.bl (decide (ns = ms))) :=
  rv_eqD (fun _ e => .lst (ex_l e h1) (dp_bools ns)) (fun _ e => .lst (ex_l e h2) (dp_bools ms)) (shaped_bools ns) (shaped_bools ms) (by rw [← eqv_bools]; rfl)
end
/-! ### differences, answers -/
/-- the promise of what tells differences: a new list, or None -/
def SpDif : Sp := fun vs H Q _ => ∃ (b l n : Int), vs = [.int b, .int l, .int n] ∧ (2 ≤ b ∧ b ≤ 12 ∧ 1 ≤ l ∧ l ≤ 8) ∧ 0 ≤ n ∧ (difB b l.toNat n = true → RetL ((dif b l.toNat n).map V.int) H Q) ∧ (difB b l.toNat n = false → RetV .non H Q)
theorem sp_dif_l {b l n : Int} {H : Hp} (h : 2 ≤ b ∧ b ≤ 12 ∧ 1 ≤ l ∧ l ≤ 8) (h0 : 0 ≤ n) (hd : difB b l.toNat n = true) : SpL SpDif [.int b, .int l, .int n] H ((dif b l.toNat n).map V.int) :=
  fun _ _ _ q _ => ⟨b, l, n, rfl, h, h0, fun _ => q, fun q2 => by rw [hd] at q2; cases q2⟩
theorem sp_dif_v {b l n : Int} {H : Hp} (h : 2 ≤ b ∧ b ≤ 12 ∧ 1 ≤ l ∧ l ≤ 8) (h0 : 0 ≤ n) (hd : difB b l.toNat n = false) : SpV SpDif [.int b, .int l, .int n] H .non :=
  fun _ _ _ q _ => ⟨b, l, n, rfl, h, h0, fun q2 => (by rw [hd] at q2; cases q2), fun _ => q⟩
def rIsNon : R2 := fun x y H Q => y = .non ∧ Q (.bl (decide (x = .non))) H
def rNotNon : R2 := fun x y H Q => y = .non ∧ Q (.bl (!decide (x = .non))) H
theorem ev_difN {b l n : Int} {H : Hp} {σ : L2.St} {E : XK} {ta : TA} (h : 2 ≤ b ∧ b ≤ 12 ∧ 1 ≤ l ∧ l ≤ 8) (h0 : 0 ≤ n) (ha : EvA ta σ H [.int b, .int l, .int n]) : Ev (tOp rIsNon (tCall SpDif [] E ta) (tC .non)) σ H (.bl (!difB b l.toNat n)) := fun H1 e Q q =>
  ha H1 e _ fun H2 e2 => ⟨b, l, n, rfl, h, h0, fun hd p H3 _ e3 _ => ⟨rfl, by
    have := q H3 (e2.trans e3)
    rw [hd] at this
    exact this⟩, fun hd H3 e3 => ⟨rfl, by
    have := q H3 (e2.trans e3)
    rw [hd] at this
    exact this⟩⟩
theorem ev_difY {b l n : Int} {H : Hp} {σ : L2.St} {E : XK} {ta : TA} (h : 2 ≤ b ∧ b ≤ 12 ∧ 1 ≤ l ∧ l ≤ 8) (h0 : 0 ≤ n) (ha : EvA ta σ H [.int b, .int l, .int n]) : Ev (tOp rNotNon (tCall SpDif [] E ta) (tC .non)) σ H (.bl (difB b l.toNat n)) := fun H1 e Q q =>
  ha H1 e _ fun H2 e2 => ⟨b, l, n, rfl, h, h0, fun hd p H3 _ e3 _ => ⟨rfl, by
    have := q H3 (e2.trans e3)
    rw [hd] at this
    exact this⟩, fun hd H3 e3 => ⟨rfl, by
    have := q H3 (e2.trans e3)
    rw [hd] at this
    exact this⟩⟩
/-- the fields of a Came -/
def numF (m : Int) : List (Str × V) := putF "number" (.int m) []
theorem numF_at (m : Int) : (numF m).lookup ("number" : Str) = some (.int m) := by
  unfold numF
  rw [lookup_putF, if_pos rfl]
theorem numF_no (m : Int) : (numF m).lookup ("shows" : Str) = none := by
  unfold numF
  rw [lookup_putF, if_neg (by decide +kernel)]
  rfl
/-- what a Came with m says of n -/
def cms (b : Int) (L : Nat) (m n : Int) : Bool := (decide (0 ≤ m) && decide (m < pw b L)) && decide (stepM b L m = n)
end Sl
namespace Sl
open PySem PySem.Spec PyProof.Rows L2 Evl
section
variable {K : PySem.W.Frag} {σ : L2.St} {H H' : Hp} {ta tb tc te tx tl td : TE} {t u : TA} {x y z v : V}
/-- C(..).m(..), C(..).f -/
theorem ev_methP {C : Addr} {fs : List (Str × V)} {m : Str} {sp : Sp} {E : XK} {vs : List V} (ha : EvP ta σ H fun v H2 => ∃ p dx, v = .ref p ∧ H p = none ∧ H2 p = some (.ins C dx fs)) (l : fs.lookup m = none) (hv : EvA t σ H vs) (hs : ∀ p dx H1, Ex H H1 → H1 p = some (.ins C dx fs) → SpV sp (.ref p :: vs) H1 z) : Ev (tMeth C m sp [] E ta t) σ H z := fun H1 e Q q =>
  ha H1 e _ fun v H2 e2 ⟨p, dx, ev, _, hp⟩ => by
    subst ev
    exact ⟨p, dx, fs, rfl, hp, l, hv H2 (e.trans e2) _ fun H3 e3 => by
      rw [List.append_nil]
      exact hs p dx H3 ((e.trans e2).trans e3) (e3 p _ hp) H3 (Ex.refl H3) Q (fun H4 e4 => q H4 ((e2.trans e3).trans e4)) E⟩
theorem ev_fldP {C : Addr} {fs : List (Str × V)} {f : Str} (ha : EvP ta σ H fun v H2 => ∃ p dx, v = .ref p ∧ H p = none ∧ H2 p = some (.ins C dx fs)) (c : Cls K C) (n : NoAttr K C f) (l : fs.lookup f = some v) : Ev (tFld K ta f) σ H v := fun H1 e Q q =>
  ha H1 e _ fun v H2 e2 ⟨p, dx, ev, _, hp⟩ => by
    subst ev
    exact ⟨p, C, dx, fs, _, rfl, hp, c, n, l, q H2 e2⟩
end
end Sl
namespace Sl
open PySem PySem.Spec PyProof.Rows L2 Evl
/-! ### rows with their turns: lists of tuples -/
theorem sz_big {n : Nat} (h : n < 1000000) : n < sizeLine := Nat.lt_of_lt_of_le h (by decide)
section
variable {K : PySem.W.Frag} {σ : L2.St} {H H' : Hp} {ta tb tc te tx tl td : TE} {x y z v : V} {D : Ends} {tu tw tz : TS}
/-- xs.append((a new list, x, y)) -/
theorem s_appT3 {l : Addr} {xs ys : List V} (hl : H l = some (.lst xs)) (ha : Ev ta σ H (.ref l)) (h1 : EvL tb σ H ys) (h2 : Ev tc σ H x) (h3 : Ev td σ H y) (hz : xs.length < 1000000)
    (k : ∀ a t H2, H a = none → H t = none → Ex H H2 → H2 a = some (.lst ys) → H2 t = some (.tup [.ref a, x, y]) → D.nx σ (upd H2 l (.lst (xs ++ [.ref t])))) :
    tDrop (tBM K "list" rAppend ta (tCons (tTup (tCons tb (tCons tc (tCons td tNil)))) tNil)) D σ H := ha H (Ex.refl H) _ fun H1 e1 =>
  ⟨Or.inl ⟨rfl, xs, sq_of (e1 l _ hl)⟩, h1 H1 e1 _ fun a H2 na e2 h2a => h2 H2 (e1.trans e2) _ fun H3 e3 => h3 H3 ((e1.trans e2).trans e3) _ fun H4 e4 => ⟨by show 3 ≤ sizeLine; decide, fun t ht =>
    ⟨l, xs, .ref t, rfl, rfl, Ex.new ht l _ (e4 l _ (e3 l _ (e2 l _ (e1 l _ hl)))), sz_big hz, k a t _ (fresh_back e1 na) (fresh_back (((e1.trans e2).trans e3).trans e4) ht) ((((e1.trans e2).trans e3).trans e4).trans (Ex.new ht)) (Ex.new ht a _ (e4 a _ (e3 a _ h2a))) upd_same⟩⟩⟩
/-- x = [([], i, j)] -/
theorem q_asgT0 {i : Nat} {x y : V} (k : ∀ p a t H2, H p = none → H a = none → H t = none → p ≠ a → p ≠ t → Ex H H2 → H2 p = some (.lst [.ref t]) → H2 a = some (.lst []) → H2 t = some (.tup [.ref a, x, y]) → tz D (σ.set i (some (.ref p))) H2) :
    tSeq (tAsg (tLst (tCons (tTup (tCons (tLst tNil) (tCons (tC x) (tCons (tC y) tNil)))) tNil)) (gName i)) tz D σ H :=
  ⟨Nat.zero_le _, fun a ha => ⟨by show 3 ≤ sizeLine; decide, fun t ht => ⟨by show 1 ≤ sizeLine; decide, fun p hp => by
    have hta : t ≠ a := fun e => by
      rw [e, upd_same] at ht
      cases ht
    have hpt : p ≠ t := fun e => by
      rw [e, upd_same] at hp
      cases hp
    have hpa : p ≠ a := fun e => by
      rw [e, upd_ne hta.symm, upd_same] at hp
      cases hp
    have ht0 : H t = none := by
      rw [upd_ne hta] at ht
      exact ht
    have hp0 : H p = none := by
      rw [upd_ne hpt, upd_ne hpa] at hp
      exact hp
    refine k p a t _ hp0 ha ht0 hpa hpt (((Ex.new ha).trans (Ex.new ht)).trans (Ex.new hp)) upd_same ?_ ?_
    · rw [upd_ne hpa.symm, upd_ne hta.symm, upd_same]
    · rw [upd_ne hpt.symm, upd_same]⟩⟩⟩
end
/-- rows and their turns at addresses other than q -/
def RowsAt (q : Addr) (H : Hp) : List V → List (List Int) → Prop
  | [], [] => True
  | v :: vs, r :: rs => (∃ t a, v = .ref t ∧ t ≠ q ∧ a ≠ q ∧ H t = some (.tup [.ref a, .int (trn r), .int (alkR r.reverse : Int)]) ∧ H a = some (.lst (r.map V.int))) ∧ RowsAt q H vs rs
  | _, _ => False
theorem RowsAt.ex {q : Addr} {H H' : Hp} (e : Ex H H') : ∀ {vs : List V} {rs : List (List Int)}, RowsAt q H vs rs → RowsAt q H' vs rs
  | [], [], _ => True.intro
  | v :: vs, r :: rs, ⟨⟨t, a, h1, h2, h3, h4, h5⟩, h⟩ => ⟨⟨t, a, h1, h2, h3, e t _ h4, e a _ h5⟩, RowsAt.ex e h⟩
  | [], _ :: _, h => nomatch h
  | _ :: _, [], h => nomatch h
theorem RowsAt.upd {q : Addr} {H : Hp} {o : HO} : ∀ {vs : List V} {rs : List (List Int)}, RowsAt q H vs rs → RowsAt q (upd H q o) vs rs
  | [], [], _ => True.intro
  | v :: vs, r :: rs, ⟨⟨t, a, h1, h2, h3, h4, h5⟩, h⟩ => ⟨⟨t, a, h1, h2, h3, by rw [upd_ne h2]; exact h4, by rw [upd_ne h3]; exact h5⟩, RowsAt.upd h⟩
  | [], _ :: _, h => nomatch h
  | _ :: _, [], h => nomatch h
/-- at other addresses than any that is free -/
theorem RowsAt.free {q q2 : Addr} {H : Hp} (n : H q2 = none) : ∀ {vs : List V} {rs : List (List Int)}, RowsAt q H vs rs → RowsAt q2 H vs rs
  | [], [], _ => True.intro
  | v :: vs, r :: rs, ⟨⟨t, a, h1, h2, h3, h4, h5⟩, h⟩ => ⟨⟨t, a, h1, ne_of_none h4 n, ne_of_none h5 n, h4, h5⟩, RowsAt.free n h⟩
  | [], _ :: _, h => nomatch h
  | _ :: _, [], h => nomatch h
theorem RowsAt.len {q : Addr} {H : Hp} : ∀ {vs : List V} {rs : List (List Int)}, RowsAt q H vs rs → vs.length = rs.length
  | [], [], _ => rfl
  | v :: vs, r :: rs, ⟨_, h⟩ => by rw [List.length_cons, List.length_cons, RowsAt.len h]
  | [], _ :: _, h => nomatch h
  | _ :: _, [], h => nomatch h
theorem RowsAt.get {q : Addr} {H : Hp} : ∀ {vs : List V} {rs : List (List Int)} {i : Nat} {v : V}, RowsAt q H vs rs → vs[i]? = some v → ∃ r t a, rs[i]? = some r ∧ v = .ref t ∧ H t = some (.tup [.ref a, .int (trn r), .int (alkR r.reverse : Int)]) ∧ H a = some (.lst (r.map V.int))
  | [], _, _, _, _, e => nomatch e
  | _ :: _, [], _, _, h, _ => nomatch h
  | w :: vs, r :: rs, 0, v, ⟨⟨t, a, h1, h2, h3, h4, h5⟩, _⟩, e => by
    have : w = v := Option.some.inj e
    subst this
    exact ⟨r, t, a, rfl, h1, h4, h5⟩
  | w :: vs, r :: rs, i + 1, v, ⟨_, h⟩, e => RowsAt.get (i := i) h e
theorem RowsAt.snoc {q : Addr} {H : Hp} {t a : Addr} {r : List Int} (h2 : t ≠ q) (h3 : a ≠ q) (h4 : H t = some (.tup [.ref a, .int (trn r), .int (alkR r.reverse : Int)])) (h5 : H a = some (.lst (r.map V.int))) : ∀ {vs : List V} {rs : List (List Int)}, RowsAt q H vs rs → RowsAt q H (vs ++ [.ref t]) (rs ++ [r])
  | [], [], _ => ⟨⟨t, a, rfl, h2, h3, h4, h5⟩, True.intro⟩
  | v :: vs, x :: rs, ⟨g, h⟩ => ⟨g, RowsAt.snoc h2 h3 h4 h5 h⟩
  | [], _ :: _, h => nomatch h
  | _ :: _, [], h => nomatch h
/-- range(0, j, c): what is walked stays below j -/
theorem rgc_lt {j c : Int} {n i : Nat} (hj : 0 ≤ j) (hc : 1 ≤ c) (h : RgC 0 j c n) (hi : i < n) : (0 : Int) + (i : Nat) * c < j := by
  have h4 := h.2.2.2
  unfold Builtin.Range.rangeSize at h4
  rw [if_pos (show c > 0 by omega)] at h4
  have hn : ∀ q : Int, (i : Int) ≤ q → q * c ≤ j - 0 - 1 → (0 : Int) + (i : Nat) * c < j := fun q h1 h2 => by
    have := Int.mul_le_mul_of_nonneg_right h1 (show 0 ≤ c by omega)
    omega
  by_cases hj0 : 0 < j
  · refine hn ((j - 0 - 1) / c) ?_ (Int.ediv_mul_le _ (by omega))
    have hq := Int.ediv_nonneg (a := j - 0 - 1) (b := c) (by omega) (by omega)
    generalize (j - 0 - 1) / c = q at h4 hq
    split at h4 <;> omega
  · generalize (j - 0 - 1) / c = q at h4
    split at h4 <;> omega
theorem q_forR3b {σ : L2.St} {H : Hp} {D : Ends} {tu tz : TS} {ta : TA} {j : Nat} {m c : Int} (h : EvA ta σ H [.int 0, .int m, .int c]) (hm : 0 ≤ m ∧ m ≤ 1000) (hc : 1 ≤ c ∧ c ≤ 1000) (Pv : L2.St → Hp → Prop) (h0 : ∀ H1, Ex H H1 → Pv σ H1)
    (hs : ∀ (i : Int) σ' H', 0 ≤ i → i < m → Pv σ' H' → tu { D with nx := Pv, ct := Pv, bk := tz D } (σ'.set j (some (.int i))) H') (hd : ∀ σ' H', Pv σ' H' → tz D σ' H') : tSeq (tFor (iRng3 ta) (gName j) tu) tz D σ H := by
  obtain ⟨n, hn⟩ := rgc hm hc
  refine h H (Ex.refl H) _ fun H1 e => ⟨0, m, c, n, rfl, hn, for_rangeC (lo := 0) (c := c) (n := n) (fun _ => Pv) (h0 H1 e) (fun i σ' H' hi p => ?_) hd⟩
  refine hs _ σ' H' ?_ (rgc_lt hm.1 hc.1 hn hi) p
  have := Int.mul_nonneg (Int.natCast_nonneg i) (show 0 ≤ c by omega)
  omega
end Sl
namespace Sl
open PySem PySem.Spec PyProof.Rows L2 Evl
/-! ### sorted of a list of lists of ints -/
def leR (p q : Addr × List Int) : Bool := decide (p.2 ≤ q.2)
def rSortedLL (K : PySem.W.Frag) : List V → Hp → VK → Prop := fun vs H Q => ∃ (a : Addr) (as : List Addr) (xss : List (List Int)), vs = [V.ref a] ∧ SqL K H a (as.map V.ref) ∧ (as.map H = xss.map fun ns => some (HO.lst (ns.map V.int))) ∧
  ∀ p, H p = none → Q (.ref p) (upd H p (.lst (((as.zip xss).mergeSort leR).map fun b => V.ref b.1)))
theorem vals_refs : ∀ {as : List Addr} {its : List Value}, Vals (as.map V.ref) its → its = as.map Value.ref
  | [], [], _ => rfl
  | a :: as, u :: us, .cons r t => by
    have e : u = Value.ref a := r
    rw [e, vals_refs t]
    rfl
theorem refs_vals : ∀ (bs : List (Addr × List Int)), Vals (bs.map fun b => V.ref b.1) (bs.map fun b => Value.ref b.1)
  | [] => .nil
  | b :: bs => .cons rfl (refs_vals bs)
theorem each_refs : ∀ {as : List Addr} {xss : List (List Int)}, as.length = xss.length → PySem.W.EachIs (fun (v : Value) (b : Addr × List Int) => v = Value.ref b.1) (as.map Value.ref) (as.zip xss)
  | [], [], _ => .nil
  | a :: as, x :: xss, h => .cons rfl (each_refs (by simpa using h))
  | [], _ :: _, h => by simp at h
  | _ :: _, [], h => by simp at h
theorem each_back : ∀ {vs : List Value} {bs : List (Addr × List Int)}, PySem.W.EachIs (fun (v : Value) (b : Addr × List Int) => v = Value.ref b.1) vs bs → vs = bs.map fun b => Value.ref b.1
  | _, _, .nil => rfl
  | _, _, .cons e r => by
    rw [e, each_back r]
    rfl
theorem each_reads {X : Cx} {pins : List (Addr × Obj)} {σ : L2.St} {H : Hp} {s : Shared} (I : Inv X pins σ H s) : ∀ {as : List Addr} {xss : List (List Int)}, (as.map H = xss.map fun ns => some (HO.lst (ns.map V.int))) → PySem.W.EachIs (fun (v : Value) (b : Addr × List Int) => ∃ ks, Reads s.heap v (PyData.list (b.2.map PyData.int)) ks) (as.map Value.ref) (as.zip xss)
  | [], [], _ => .nil
  | a :: as, x :: xss, h => by
    rw [List.map_cons, List.map_cons] at h
    obtain ⟨h1, h2⟩ := List.cons.inj h
    exact .cons (Dp.reads I _ (.ref a) (.ref a) (.lst (sq_of h1) (dp_ints x)) rfl) (each_reads I h2)
  | [], _ :: _, h => nomatch h
  | _ :: _, [], h => nomatch h
theorem depth_rows (ns : List Int) : (PyData.list (ns.map PyData.int)).depth = 1 := by
  have h := (can_ints ns).2
  unfold pI at h
  simp [PyData.depth, h]
theorem cr_sortedLL {X : Cx} (hu : X.A.units + 64 < cLine) : CallR X (.builtin "sorted") (rSortedLL X.K) := by
  intro pins s σ H vs us Q I r h
  obtain ⟨a, as, xss, rfl, hs, hall, q⟩ := h
  obtain ⟨its, rv, hl, hz⟩ := I.list hs
  rw [Vals.ref1 r]
  have hits := vals_refs rv
  subst hits
  have hlen : as.length = xss.length := by
    have := congrArg List.length hall
    simpa using this
  have hzl : (as.zip xss).length = as.length := by
    rw [List.length_zip]
    omega
  rw [List.length_map] at hz
  refine PySem.W.sorted_data (bs := as.zip xss) (enc := fun b => PyData.list (b.2.map PyData.int)) (R := fun v b => v = Value.ref b.1) hl.isList (each_refs hlen) (each_reads I hall)
    (PySem.W.AllAlike.of fun b b' => by simp [PySem.W.alike, PySem.W.alike_ints]) (PySem.W.Sortable.others fun b => ⟨by simp, fun xs => by simp⟩) (by rw [hzl]; exact hz) (fun b _ => by rw [depth_rows]; omega) fun out hol hoe => ?_
  have hout := each_back hoe
  rw [PySem.W.dataLe_rows (fun b : Addr × List Int => b.2)] at hout
  subst hout
  obtain ⟨ep, he'⟩ := PyProof.Rows.sortedAll_at s.heap (as.map Value.ref) (((as.zip xss).mergeSort leR).map fun b => Value.ref b.1).toArray
  have hl2 : (((as.zip xss).mergeSort leR).map fun b => V.ref b.1).length ≤ sizeLine := by
    rw [List.length_map, List.length_mergeSort, hzl]
    exact hz
  exact ⟨.ref _, upd H (s.heap.objs.size + 1) (.lst (((as.zip xss).mergeSort leR).map fun b => V.ref b.1)), I.laid (t' := s.toks) (fun _ _ => PyProof.Rows.sortedAll_old) (Nat.le_succ _) ⟨hl2, _, ep, refs_vals _, he'⟩, rfl, q _ (I.hok.fresh (Nat.le_succ _))⟩
end Sl
namespace Sl
open PySem PySem.Spec PyProof.Rows L2 Evl
/-! ### new lists of new pairs of ints -/
structure Nsp (H0 H : Hp) (p : Addr) (as : List Addr) (xss : List (Int × Int)) : Prop where
  top : H p = some (.lst (as.map V.ref))
  nd : (p :: as).Nodup
  new : ∀ a ∈ as, H0 a = none
  all : as.map H = xss.map fun ns => some (HO.tup [.int ns.1, .int ns.2])
theorem Nsp.len {H0 H : Hp} {p : Addr} {as : List Addr} {xss : List (Int × Int)} (h : Nsp H0 H p as xss) : as.length = xss.length := by
  have := congrArg List.length h.all
  simpa using this
theorem Nsp.get {H0 H : Hp} {p : Addr} {as : List Addr} {xss : List (Int × Int)} (h : Nsp H0 H p as xss) {i : Nat} {a : Addr} (e : as[i]? = some a) : ∃ ns, xss[i]? = some ns ∧ H a = some (.tup [.int ns.1, .int ns.2]) := by
  have := congrArg (fun l => l[i]?) h.all
  simp only [List.getElem?_map, e, Option.map_some] at this
  cases e2 : xss[i]? with
  | none =>
    rw [e2] at this
    cases this
  | some ns =>
    rw [e2] at this
    exact ⟨ns, rfl, Option.some.inj this⟩
theorem Nsp.mem {H0 H : Hp} {p : Addr} {as : List Addr} {xss : List (Int × Int)} (h : Nsp H0 H p as xss) {a : Addr} (e : a ∈ as) : ∃ ns, ns ∈ xss ∧ H a = some (.tup [.int ns.1, .int ns.2]) := by
  obtain ⟨i, hi⟩ := List.getElem?_of_mem e
  obtain ⟨ns, h1, h2⟩ := h.get hi
  exact ⟨ns, List.mem_of_getElem? h1, h2⟩
theorem mapp_ex {H H' : Hp} (e : Ex H H') : ∀ {as : List Addr} {xss : List (Int × Int)}, (as.map H = xss.map fun ns => some (HO.tup [.int ns.1, .int ns.2])) → (as.map H' = xss.map fun ns => some (HO.tup [.int ns.1, .int ns.2]))
  | [], [], _ => rfl
  | [], _ :: _, h => nomatch h
  | _ :: _, [], h => nomatch h
  | a :: as, ns :: xss, h => by
    rw [List.map_cons, List.map_cons] at h ⊢
    obtain ⟨h1, h2⟩ := List.cons.inj h
    rw [e a _ h1, mapp_ex e h2]
theorem Nsp.ex {H0 H H' : Hp} {p : Addr} {as : List Addr} {xss : List (Int × Int)} (h : Nsp H0 H p as xss) (e : Ex H H') : Nsp H0 H' p as xss := ⟨e p _ h.top, h.nd, h.new, mapp_ex e h.all⟩
def EvNp (te : TE) (σ : L2.St) (H : Hp) (xss : List (Int × Int)) : Prop := ∀ H1, Ex H H1 → ∀ Q : VK, (∀ p as H2, H1 p = none → Ex H1 H2 → Nsp H1 H2 p as xss → Q (.ref p) H2) → te σ H1 Q
def SpNp (sp : Sp) (vs : List V) (H : Hp) (xss : List (Int × Int)) : Prop := ∀ H1, Ex H H1 → ∀ Q : VK, (∀ p as H2, H1 p = none → Ex H1 H2 → Nsp H1 H2 p as xss → Q (.ref p) H2) → ∀ E : XK, sp vs H1 Q E
theorem Nsp.back {H0 H1 H : Hp} {p : Addr} {as : List Addr} {xss : List (Int × Int)} (h : Nsp H1 H p as xss) (e : Ex H0 H1) : Nsp H0 H p as xss := ⟨h.top, h.nd, fun a ha => fresh_back e (h.new a ha), h.all⟩
/-- the word of a comprehension that makes such -/
def NWp (H1 : Hp) (Dl : Addr) (xss : List (Int × Int)) (H' : Hp) : Prop := H1 Dl = none ∧ Ex H1 H' ∧ ∃ as, Nsp H1 H' Dl as xss
section
variable {K : PySem.W.Frag} {σ : L2.St} {H H' : Hp} {ta tb tc te tx tl : TE} {t u : TT} {x y z v : V} {r r' : R2} {D : Ends} {tu tw tz : TS} {g : TG}
theorem nwp_zero {Dl : Addr} (h : H Dl = none) : NWp H Dl [] (upd H Dl (.lst [])) := ⟨h, Ex.new h, [], upd_same, by simp, (fun _ h => nomatch h), rfl⟩
theorem nwp_turn {H1 : Hp} {Dl : Addr} {xss : List (Int × Int)} {ns : Int × Int} {σ2 : L2.St} (p : NWp H1 Dl xss H') (hz : xss.length < 100000) (he : ∀ H2, Ex H1 H2 → EvU te σ2 H2 [.int ns.1, .int ns.2]) :
    tYes σ2 H' fun b H3 => if b = true then te σ2 H3 fun y H4 => ∃ acc, H4 Dl = some (.lst acc) ∧ acc.length < sizeLine ∧ NWp H1 Dl (xss ++ [ns]) (upd H4 Dl (.lst (acc ++ [y]))) else NWp H1 Dl (xss ++ [ns]) H3 := by
  obtain ⟨p1, p2, as, hN⟩ := p
  unfold tYes
  refine iteT ?_
  refine he H' p2 H' (Ex.refl H') _ fun q H4 nq e4 hq => ⟨as.map V.ref, e4 Dl _ hN.top, sz_lt ?_, p1, Ex.mut (p2.trans e4) p1, as ++ [q], ?_, ?_, ?_, ?_⟩
  · rw [List.length_map, hN.len]
    exact hz
  · rw [upd_same, List.map_append]
    rfl
  · have n1 := List.nodup_cons.mp hN.nd
    have qD : q ≠ Dl := fun e => by
      rw [e, hN.top] at nq
      cases nq
    have qa : q ∉ as := fun h => by
      obtain ⟨ns, _, h2⟩ := hN.mem h
      rw [h2] at nq
      cases nq
    refine List.nodup_cons.mpr ⟨fun h => ?_, ?_⟩
    · rcases List.mem_append.mp h with h | h
      · exact n1.1 h
      · exact qD (List.mem_singleton.mp h).symm
    · rw [List.nodup_append]
      refine ⟨n1.2, by simp, fun a ha b hb e => ?_⟩
      have : b = q := by simpa using hb
      rw [this] at e
      rw [e] at ha
      exact qa ha
  · intro a ha
    rcases List.mem_append.mp ha with h | h
    · exact hN.new a h
    · have : a = q := by simpa using h
      rw [this]
      exact fresh_back p2 nq
  · have hDn : ∀ a ∈ as ++ [q], upd H4 Dl (.lst (as.map V.ref ++ [.ref q])) a = H4 a := fun a ha => by
      refine upd_ne fun e => ?_
      rw [e] at ha
      rcases List.mem_append.mp ha with h | h
      · exact (List.nodup_cons.mp hN.nd).1 h
      · have e2 : Dl = q := by simpa using h
        rw [← e2, hN.top] at nq
        cases nq
    rw [List.map_congr_left hDn, List.map_append, List.map_append, mapp_ex e4 hN.all]
    simp [hq]
/-- over range(n) -/
theorem enp_lcR1 {ta : TA} {j : Nat} {vs : List Nat} {n : Int} (xs : Nat → Int × Int) (h : EvA ta σ H [.int n]) (hn : 0 ≤ n ∧ n ≤ 40000) (hw : ∀ x, wipe ((wipe σ vs).set j (some x)) vs = wipe σ vs)
    (he : ∀ (i : Nat) H1, Ex H H1 → (i : Int) < n → EvU te ((wipe σ vs).set j (some (.int (i : Int)))) H1 [.int (xs i).1, .int (xs i).2]) :
    EvNp (tLc (iRng1 ta) (gName j) tYes te vs) σ H ((List.range n.toNat).map xs) := fun H0 e Q q => h H0 e _ fun H1 e1 => ⟨n, rfl, by omega, by omega, fun Dl hD =>
  lc_range (lo := 0) (n := n.toNat) (fun i H' => NWp H1 Dl ((List.range i).map xs) H') (nwp_zero hD) (fun i H' hi p => by
    have e0 : (0 : Int) + (i : Int) = (i : Int) := Int.zero_add _
    show wipe ((wipe σ vs).set j (some (.int ((0 : Int) + (i : Int))))) vs = wipe σ vs ∧ tYes ((wipe σ vs).set j (some (.int ((0 : Int) + (i : Int))))) H' fun b H3 => if b = true then te ((wipe σ vs).set j (some (.int ((0 : Int) + (i : Int))))) H3 fun y H4 => ∃ acc, H4 Dl = some (.lst acc) ∧ acc.length < sizeLine ∧ NWp H1 Dl ((List.range (i + 1)).map xs) (upd H4 Dl (.lst (acc ++ [y]))) else NWp H1 Dl ((List.range (i + 1)).map xs) H3
    rw [e0, show (List.range (i + 1)).map xs = (List.range i).map xs ++ [xs i] by simp [List.range_succ]]
    exact ⟨hw _, nwp_turn p (by simp; omega) fun H2 e2 => he i H2 ((e.trans e1).trans e2) (by omega)⟩) (fun H' p => by
    obtain ⟨p1, p2, as, hN⟩ := p
    exact q Dl as H' (fresh_back e1 p1) (e1.trans p2) (hN.back e1))⟩
theorem q_asgNp {i : Nat} {xss : List (Int × Int)} (h : EvNp te σ H xss) (k : ∀ p as H1, H p = none → Ex H H1 → Nsp H H1 p as xss → tz D (σ.set i (some (.ref p))) H1) : tSeq (tAsg te (gName i)) tz D σ H := h H (Ex.refl H) _ fun p as H1 hp e h1 => k p as H1 hp e h1
theorem s_extNp {l : Addr} {xs : List V} {yss : List (Int × Int)} (hl : H l = some (.lst xs)) (ha : Ev ta σ H (.ref l)) (h : EvNp te σ H yss) (hz : xs.length + yss.length ≤ 100000) (k : ∀ p as H2, H p = none → Ex H H2 → Nsp H H2 p as yss → D.nx σ (upd H2 l (.lst (xs ++ as.map V.ref)))) :
    tDrop (tBM K "list" rExtend ta (tCons te tNil)) D σ H := ha H (Ex.refl H) _ fun H1 e1 =>
  ⟨Or.inl ⟨rfl, xs, sq_of (e1 l _ hl)⟩, h H1 e1 _ fun p as H2 hp e2 hN => ⟨l, p, xs, as.map V.ref, rfl, rfl, e2 l _ (e1 l _ hl), hN.top, by
    have := hN.len
    refine sz_of ?_
    rw [List.length_map, this]
    exact hz, k p as H2 (fresh_back e1 hp) (e1.trans e2) (hN.back e1)⟩⟩
end
theorem Nsp.extend {H0 H H2 : Hp} {l p : Addr} {bs as : List Addr} {xss yss : List (Int × Int)} (h : Nsp H0 H l bs xss) (e0 : Ex H0 H) (e : Ex H H2) (g : Nsp H H2 p as yss) : Nsp H0 (upd H2 l (.lst (bs.map V.ref ++ as.map V.ref))) l (bs ++ as) (xss ++ yss) := by
  have n1 := List.nodup_cons.mp h.nd
  have n2 := (List.nodup_cons.mp g.nd).2
  have la : l ∉ as := fun q => by
    have := g.new l q
    rw [h.top] at this
    cases this
  have hl : ∀ a ∈ bs ++ as, upd H2 l (.lst (bs.map V.ref ++ as.map V.ref)) a = H2 a := fun a ha => by
    refine upd_ne fun q => ?_
    rw [q] at ha
    rcases List.mem_append.mp ha with q | q
    · exact n1.1 q
    · exact la q
  refine ⟨by rw [upd_same, List.map_append], List.nodup_cons.mpr ⟨fun q => ?_, ?_⟩, fun a ha => ?_, ?_⟩
  · rcases List.mem_append.mp q with q | q
    · exact n1.1 q
    · exact la q
  · rw [List.nodup_append]
    refine ⟨n1.2, n2, fun a ha b hb q => ?_⟩
    obtain ⟨ns, _, h2⟩ := h.mem ha
    have := g.new b hb
    rw [← q, h2] at this
    cases this
  · rcases List.mem_append.mp ha with q | q
    · exact h.new a q
    · exact fresh_back e0 (g.new a q)
  · rw [List.map_congr_left hl, List.map_append, List.map_append, mapp_ex e h.all, g.all]
section
variable {K : PySem.W.Frag} {σ : L2.St} {H H' : Hp} {ta tb tc te tx tl : TE} {x y z v : V} {D : Ends} {tu tw tz : TS} {zs xs : List V} {vs : List Nat}
/-- [(x, y)] -/
theorem enp_one {x y : Int} (h : EvU ta σ H [.int x, .int y]) : EvNp (tLst (tCons ta tNil)) σ H [(x, y)] := fun H1 e Q q => h H1 e _ fun a H2 na e2 ha => ⟨by show 1 ≤ sizeLine; decide, fun p hp => by
  have hpa : p ≠ a := fun e => by
    rw [e, ha] at hp
    cases hp
  refine q p [a] _ (fresh_back e2 hp) (e2.trans (Ex.new hp)) ⟨upd_same, by simpa using hpa, fun b hb => ?_, ?_⟩
  · have : b = a := by simpa using hb
    rw [this]
    exact na
  · show [upd H2 p _ a] = _
    rw [upd_ne hpa.symm, ha]
    rfl⟩
/-- a, b = e, [] by a tuple -/
theorem q_tupVL {i j : Nat} (h : Ev ta σ H x) (k : ∀ p H1, H p = none → Ex H H1 → H1 p = some (.lst []) → tz D ((σ.set i (some x)).set j (some (.ref p))) H1) :
    tSeq (tAsg (tTup (tCons ta (tCons (tLst tNil) tNil))) (gTup K 2 (gCons (gName i) (gCons (gName j) gNil)))) tz D σ H :=
  h H (Ex.refl H) _ fun H1 e1 => ⟨Nat.zero_le _, fun p hp => ⟨by show 2 ≤ sizeLine; decide, fun t ht => by
    have htp : t ≠ p := fun e => by
      rw [e, upd_same] at ht
      cases ht
    refine ⟨t, [x, .ref p], rfl, st_of upd_same, rfl, _, _, rfl, _, _, rfl, rfl, ?_⟩
    exact k p _ (fresh_back e1 hp) ((e1.trans (Ex.new hp)).trans (Ex.new ht)) (by rw [upd_ne htp.symm, upd_same])⟩⟩
/-- [e for a, b in xs], xs a list of pairs -/
theorem el_zipT2 {a : Addr} {i j : Nat} (h : Ev tl σ H (.ref a)) (hx : SqL K H a xs) (hl : zs.length = xs.length) (hz : zs.length ≤ 40000) (hw : ∀ x y, wipe (((wipe σ vs).set i (some x)).set j (some y)) vs = wipe σ vs)
    (he : ∀ (k : Nat) x z, xs[k]? = some x → zs[k]? = some z → ∃ t u v, x = .ref t ∧ H t = some (.tup [u, v]) ∧ ∀ H1, Ex H H1 → Ev te (((wipe σ vs).set i (some u)).set j (some v)) H1 z) :
    EvL (tLc (iList K tl) (gTup K 2 (gCons (gName i) (gCons (gName j) gNil))) tYes te vs) σ H zs := fun H0 e Q q => h H0 e _ fun H1 e1 => ⟨a, rfl, ⟨xs, ex_l (e.trans e1) hx⟩, fun Dl hD =>
  lc_list (xs := xs) (fun i H' => LW H1 Dl zs i H') (lw_zero hD) (fun i H' _ p => ex_l ((e.trans e1).trans p.2.1) hx)
    (fun k x H' hi p => by
      obtain ⟨z, ez⟩ := get_of_len hl hi
      obtain ⟨t, u, v, rfl, ht, he2⟩ := he k x z hi ez
      exact ⟨t, _, rfl, st_of (p.2.1 t _ ((e.trans e1) t _ ht)), rfl, _, _, rfl, _, _, rfl, rfl, hw _ _, lw_turn ez hz p fun H2 e2 => he2 H2 ((e.trans e1).trans e2)⟩)
    (fun H' p => q Dl H' (fresh_back e1 p.1) (e1.trans p.2.1) (by rw [p.2.2, ← hl, List.take_length]))⟩
/-- two new lists as arguments -/
theorem e2_nn {xs ys : List V} (h1 : EvL ta σ H xs) (h2 : EvL tb σ H ys) : EvA2 K (tCons ta (tCons tb tNil)) σ H xs ys := fun H1 e Q q =>
  h1 H1 e _ fun a H2 _ e2 ha => h2 H2 (e.trans e2) _ fun b H3 _ e3 hb => q a b H3 (e2.trans e3) (sq_of (e3 a _ ha)) (sq_of hb)
/-- for a, b in zip(xs, ys): the word speaks of the slots alone, the heap grows -/
theorem q_forZip {ta : TA} {i j : Nat} {xs ys : List V} (h : EvA2 K ta σ H xs ys) (Pv : Nat → L2.St → Prop) (h0 : Pv 0 σ)
    (hs : ∀ Hp, Ex H Hp → ∀ (k : Nat) x y σ' H', xs[k]? = some x → ys[k]? = some y → Ex Hp H' → Pv k σ' → tu { D with nx := fun σ2 H2 => Ex Hp H2 ∧ Pv (k + 1) σ2, ct := fun σ2 H2 => Ex Hp H2 ∧ Pv (k + 1) σ2, bk := tz D } ((σ'.set i (some x)).set j (some y)) H') (hd : ∀ σ' H', Ex H H' → Pv (min xs.length ys.length) σ' → tz D σ' H') :
    tSeq (tFor (iZip K ta) (gTup K 2 (gCons (gName i) (gCons (gName j) gNil))) tu) tz D σ H :=
  h H (Ex.refl H) _ fun a b H1 e1 ha hb => ⟨a, b, xs, ys, rfl, ha, hb, for_it (D := { D with nx := tz D }) (walk_zip (xs := xs) (ys := ys) rfl) (fun k σ' H' => Ex H1 H' ∧ Pv k σ') ⟨Ex.refl H1, h0⟩ (fun k σ' H' _ p => ⟨ex_l p.1 ha, ex_l p.1 hb⟩) (fun k x σ' H' H2 _ p y => by
    obtain ⟨T, v1, v2, e1', nT, e2', e3', e4'⟩ := y
    subst e1' e2'
    exact ⟨T, _, rfl, st_of upd_same, rfl, _, _, rfl, _, _, rfl, rfl, hs H1 e1 k v1 v2 σ' _ e3' e4' (p.1.trans (Ex.new nT)) p.2⟩) (fun σ' H' p => hd σ' H' (e1.trans p.1) p.2)⟩
end
end Sl
namespace Sl
open PySem PySem.Spec PyProof.Rows L2 Evl
/-- a new list, from its end on -/
theorem el_revN {K : PySem.W.Frag} {σ : L2.St} {H : Hp} {te : TE} {xs : List V} (h : EvL te σ H xs) : EvL (tRevL K te) σ H xs.reverse := fun H1 e Q q =>
  h H1 e _ fun a H2 _ e2 ha => ⟨a, xs, rfl, sq_of ha, fun p hp => q p _ (fresh_back e2 hp) (e2.trans (Ex.new hp)) upd_same⟩
end Sl
namespace Sl
open PySem PySem.Spec PyProof.Rows L2 Evl
def topS (i : Nat) : Stmt := PySem.Challenge.pw_sortless_k10_whole_hard.main.body.getD i (.Pass ⟨0, 0, 0, 0⟩)
/-- what the top has left of names: the built-in ones are free, the constants stand -/
structure Bf (K : PySem.W.Frag) (mg : Str → Option Value) : Prop where
  b_all : mg "all" = none
  b_bool : mg "bool" = none
  b_enumerate : mg "enumerate" = none
  b_int : mg "int" = none
  b_isinstance : mg "isinstance" = none
  b_len : mg "len" = none
  b_min : mg "min" = none
  b_range : mg "range" = none
  b_sorted : mg "sorted" = none
  b_sum : mg "sum" = none
  b_zip : mg "zip" = none
  g_GREATEST : ConI mg "GREATEST" 12
  g_LONGEST : ConI mg "LONGEST" 8
/-- the classes as the top has made them -/
structure Cf (K : PySem.W.Frag) (mg : Str → Option Value) : Prop where
  g_Answer : mg "Answer" = some (.ref (cA mg "Answer"))
  g_Came : mg "Came" = some (.ref (cA mg "Came"))
  g_Never : mg "Never" = some (.ref (cA mg "Never"))
  cl_Came : Cls K (cA mg "Came")
  ty_Came : TyI K (cA mg "Came")
  cl_Never : Cls K (cA mg "Never")
  ty_Never : TyI K (cA mg "Never")
  mk_Never : MkO K (cA mg "Never")
  nF : NoAttr K (cA mg "Came") "number"
  is_Came_Answer : PySem.W.kitOne K (.ref (cA mg "Came")) (.ref (cA mg "Answer")) = some true
  is_Came_Came : PySem.W.kitOne K (.ref (cA mg "Came")) (.ref (cA mg "Came")) = some true
  is_Came_Never : PySem.W.kitOne K (.ref (cA mg "Came")) (.ref (cA mg "Never")) = some false
  is_Never_Answer : PySem.W.kitOne K (.ref (cA mg "Never")) (.ref (cA mg "Answer")) = some true
  is_Never_Came : PySem.W.kitOne K (.ref (cA mg "Never")) (.ref (cA mg "Came")) = some false
  is_Never_Never : PySem.W.kitOne K (.ref (cA mg "Never")) (.ref (cA mg "Never")) = some true
end Sl
namespace Sl
open PySem PySem.Spec PyProof.Rows L2 Evl
section
variable {P : Program} {w : World} {K : PySem.W.Frag} {mg : Str → Option Value} {base : Heap}
def sp_is_whole (K : PySem.W.Frag) (mg : Str → Option Value) : Sp := sp1 (fun _ => True) (fun _ => .bl true)
abbrev s_is_whole : Stmt := topS 9
abbrev N_is_whole : List Str := ["thing"]
theorem sc_is_whole : FnScope N_is_whole ["thing"] (defScope s_is_whole) := ⟨rfl, rfl, rfl, by decide +kernel, rfl, by decide +kernel, by decide +kernel⟩
theorem ok_is_whole {f : Addr} {fd : FuncData} (F : Fun K "is_whole" "is_whole" s_is_whole f fd) (B : Bf K mg) : FnOk P w K mg base CX0 1 f fd ["thing"] (sp_is_whole K mg) := by
  refine F.ok (k := 0) sc_is_whole (fun vs H Q E h => ?_) (fun cdv A outer s H vs Q E hr h => ?_)
  · obtain ⟨a, rfl, _⟩ := h
    rfl
  · obtain ⟨a, rfl, _, q⟩ := h
    refine ⟨_, (pss_one (ps_ret (pe_and (pe_callB call_isi (by rfl) B.b_isinstance (by decide +kernel) (pa_cons (pv 0) (pa_cons (pe_bltn (v := .ty "int") (by rfl) B.b_int (by decide +kernel) rfl) pa_nil))) (pe_one (pe_not (pe_callB call_isi (by rfl) B.b_isinstance (by decide +kernel) (pa_cons (pv 0) (pa_cons (pe_bltn (v := .ty "bool") (by rfl) B.b_bool (by decide +kernel) rfl) pa_nil)))))))), ?_⟩
    refine s_ret (ev_andV (ev_cb (ea_cons (ev_var rfl) (ea_cons ev_c ea_nil)) rc_isi_int) (fun _ => (ev_notV (ev_cb (ea_cons (ev_var rfl) (ea_cons ev_c ea_nil)) rc_isi_bool)))) q
def sp_power_of (K : PySem.W.Frag) (mg : Str → Option Value) : Sp := sp2 (fun b n => 2 ≤ b ∧ b ≤ 12 ∧ 0 ≤ n ∧ n ≤ 8) (fun b n => .int (pw b n.toNat))
abbrev s_power_of : Stmt := topS 10
abbrev N_power_of : List Str := ["base", "many", "found", "turn"]
theorem sc_power_of : FnScope N_power_of ["base", "many"] (defScope s_power_of) := ⟨rfl, rfl, rfl, by decide +kernel, rfl, by decide +kernel, by decide +kernel⟩
theorem ok_power_of {f : Addr} {fd : FuncData} (F : Fun K "power_of" "power_of" s_power_of f fd) (B : Bf K mg) : FnOk P w K mg base CX0 1 f fd ["base", "many"] (sp_power_of K mg) := by
  refine F.ok (k := 0) sc_power_of (fun vs H Q E h => ?_) (fun cdv A outer s H vs Q E hr h => ?_)
  · obtain ⟨a, b, rfl, _⟩ := h
    rfl
  · obtain ⟨b, n, rfl, ⟨h1, h2, h3, h4⟩, q⟩ := h
    refine ⟨_, (pss_cons (ps_set (i := 2) sc_power_of.nd rfl (Or.inl rfl) pe_int)
          (pss_cons (ps_for PassesOwn.never rfl (pi_range1 (by rfl) B.b_range (pa_cons (pv 1) pa_nil)) (pg_name (i := 3) sc_power_of.nd rfl (Or.inl rfl)) (pss_one (ps_set (i := 2) sc_power_of.nd rfl (Or.inl rfl) (pe_op op_mul (pv 2) (pv 0)))))
          (pss_one (ps_ret (pv 2))))), ?_⟩
    refine q_asg ev_c fun H1 e1 => ?_
    refine q_forR1 (ea_cons (ev_var rfl) ea_nil) (by omega) (fun i σ' H' => ∃ y, σ' = [some (.int b), some (.int n), some (.int (pw b i)), y] ∧ Ex H H') (fun H2 e2 => ⟨none, rfl, e1.trans e2⟩) ?_ ?_
    · rintro i σ' H' hi ⟨y, rfl, e⟩
      exact s_asg (ev_op (ev_var rfl) (ev_var rfl) (rv_I (by first | exact Or.inr ⟨by omega, by omega⟩ | exact Or.inl ⟨by omega, by omega⟩))) fun H2 e2 => ⟨_, rfl, e.trans e2⟩
    · rintro σ' H' ⟨y, rfl, e⟩
      exact s_ret (ev_var rfl) fun H2 e2 => q H2 (e.trans e2)
def sp_check_both (K : PySem.W.Frag) (mg : Str → Option Value) : Sp := sp2 (fun b l => 2 ≤ b ∧ b ≤ 12 ∧ 1 ≤ l ∧ l ≤ 8) (fun _ _ => .non)
abbrev s_check_both : Stmt := topS 11
abbrev N_check_both : List Str := ["base", "length"]
theorem sc_check_both : FnScope N_check_both ["base", "length"] (defScope s_check_both) := ⟨rfl, rfl, rfl, by decide +kernel, rfl, by decide +kernel, by decide +kernel⟩
theorem ok_check_both {f : Addr} {fd : FuncData} (F : Fun K "check_both" "check_both" s_check_both f fd) (B : Bf K mg) (c_is_whole : Fn P w K mg base 1 "is_whole" ["thing"] (sp_is_whole K mg)) : FnOk P w K mg base CX0 2 f fd ["base", "length"] (sp_check_both K mg) := by
  refine F.ok (k := 1) sc_check_both (fun vs H Q E h => ?_) (fun cdv A outer s H vs Q E hr h => ?_)
  · obtain ⟨a, b, rfl, _⟩ := h
    rfl
  · obtain ⟨b, l, rfl, ⟨h1, h2, h3, h4⟩, q⟩ := h
    refine ⟨_, (pss_cons (ps_if (PW.pt (pw_or (pt_not (pt_val (pe_fn c_is_whole (hr.mono (by decide)) (by rfl) (pa_cons (pv 0) pa_nil)))) (pw_or1 (pt_not (pt_chain op_le op_le pe_int (pv 0) (pe_conI B.g_GREATEST (by rfl))))))) (pss_one ps_never) pss_nil)
          (pss_one (ps_if (PW.pt (pw_or (pt_not (pt_val (pe_fn c_is_whole (hr.mono (by decide)) (by rfl) (pa_cons (pv 1) pa_nil)))) (pw_or1 (pt_not (pt_chain op_le op_le pe_int (pv 1) (pe_conI B.g_LONGEST (by rfl))))))) (pss_one ps_never) pss_nil))), ?_⟩
    refine q_when (et_is (b := false) (et_or (et_not (et_B (ev_call (ea_cons (ev_var rfl) ea_nil) (sp1_v trivial)))) (fun _ => (et_not (et_test (ev_chain ev_c (ev_var rfl) rv_I0 ev_c rv_I0))))) (by simp [h1, h2])) (fun z => nomatch z) fun _ H1 e1 => ?_
    refine s_when (et_is (b := false) (et_or (et_not (et_B (ev_call (ea_cons (ev_var rfl) ea_nil) (sp1_v trivial)))) (fun _ => (et_not (et_test (ev_chain ev_c (ev_var rfl) rv_I0 ev_c rv_I0))))) (by simp [h3, h4])) (fun z => nomatch z) fun _ H2 e2 => ?_
    exact q H2 (e1.trans e2)
def sp_check_number (K : PySem.W.Frag) (mg : Str → Option Value) : Sp := sp3 Dom (fun _ _ _ => .non)
abbrev s_check_number : Stmt := topS 12
abbrev N_check_number : List Str := ["base", "length", "number"]
theorem sc_check_number : FnScope N_check_number ["base", "length", "number"] (defScope s_check_number) := ⟨rfl, rfl, rfl, by decide +kernel, rfl, by decide +kernel, by decide +kernel⟩
theorem ok_check_number {f : Addr} {fd : FuncData} (F : Fun K "check_number" "check_number" s_check_number f fd) (B : Bf K mg) (c_check_both : Fn P w K mg base 2 "check_both" ["base", "length"] (sp_check_both K mg)) (c_is_whole : Fn P w K mg base 1 "is_whole" ["thing"] (sp_is_whole K mg)) (c_power_of : Fn P w K mg base 1 "power_of" ["base", "many"] (sp_power_of K mg)) : FnOk P w K mg base CX0 3 f fd ["base", "length", "number"] (sp_check_number K mg) := by
  refine F.ok (k := 2) sc_check_number (fun vs H Q E h => ?_) (fun cdv A outer s H vs Q E hr h => ?_)
  · obtain ⟨a, b, c, rfl, _⟩ := h
    rfl
  · obtain ⟨b, l, n, rfl, ⟨⟨h1, h2, h3, h4⟩, h5, h6⟩, q⟩ := h
    refine ⟨_, (pss_cons (ps_expr (pe_fn c_check_both (hr.mono (by decide)) (by rfl) (pa_cons (pv 0) (pa_cons (pv 1) pa_nil))))
          (pss_one (ps_if (PW.pt (pw_or (pt_not (pt_val (pe_fn c_is_whole (hr.mono (by decide)) (by rfl) (pa_cons (pv 2) pa_nil)))) (pw_or1 (pt_not (pt_chain op_le op_lt pe_int (pv 2) (pe_fn c_power_of (hr.mono (by decide)) (by rfl) (pa_cons (pv 0) (pa_cons (pv 1) pa_nil)))))))) (pss_one ps_never) pss_nil))), ?_⟩
    refine q_drop (ev_call (ea_cons (ev_var rfl) (ea_cons (ev_var rfl) ea_nil)) (sp2_v (by first | assumption | omega))) fun H1 e1 => ?_
    refine s_when (et_is (b := false) (et_or (et_not (et_B (ev_call (ea_cons (ev_var rfl) ea_nil) (sp1_v trivial)))) (fun _ => (et_not (et_test (ev_chain ev_c (ev_var rfl) rv_I0 (ev_call (ea_cons (ev_var rfl) (ea_cons (ev_var rfl) ea_nil)) (sp2_v (by first | exact ⟨by omega, by omega, by omega, by omega⟩ | omega))) rv_I0))))) (by simp [h5, h6])) (fun z => nomatch z) fun _ H2 e2 => ?_
    exact q H2 (e1.trans e2)
def sp_figures_of (K : PySem.W.Frag) (mg : Str → Option Value) : Sp := sp3L (fun b l n => 2 ≤ b ∧ b ≤ 12 ∧ 1 ≤ l ∧ l ≤ 8) (fun b l n => figs b l.toNat n)
abbrev s_figures_of : Stmt := topS 13
abbrev N_figures_of : List Str := ["base", "length", "number", "found", "turn"]
theorem sc_figures_of : FnScope N_figures_of ["base", "length", "number"] (defScope s_figures_of) := ⟨rfl, rfl, rfl, by decide +kernel, rfl, by decide +kernel, by decide +kernel⟩
theorem ok_figures_of {f : Addr} {fd : FuncData} (F : Fun K "figures_of" "figures_of" s_figures_of f fd) (B : Bf K mg) : FnOk P w K mg base CX0 1 f fd ["base", "length", "number"] (sp_figures_of K mg) := by
  refine F.ok (k := 0) sc_figures_of (fun vs H Q E h => ?_) (fun cdv A outer s H vs Q E hr h => ?_)
  · obtain ⟨a, b, c, rfl, _⟩ := h
    rfl
  · obtain ⟨b, l, n, rfl, ⟨h1, h2, h3, h4⟩, q⟩ := h
    refine ⟨_, (pss_cons (ps_set (i := 3) sc_figures_of.nd rfl (Or.inl rfl) (pe_lst pa_nil))
          (pss_cons (ps_for PassesOwn.never rfl (pi_range1 (by rfl) B.b_range (pa_cons (pv 1) pa_nil)) (pg_name (i := 4) sc_figures_of.nd rfl (Or.inl rfl)) (pss_cons (ps_expr (pe_bm PySem.F.plainAttrs_list PySem.F.slot_list_append PySem.F.type_list_append mt_append (pv 3) (pa_cons (pe_op op_mod (pv 2) (pv 0)) pa_nil)))
          (pss_one (ps_set (i := 2) sc_figures_of.nd rfl (Or.inl rfl) (pe_op op_fdiv (pv 2) (pv 0))))))
          (pss_one (ps_ret (pv 3))))), ?_⟩
    refine q_asgL (el_lst ea_nil (by decide)) fun p H1 np e1 hp => ?_
    refine q_forR1 (ea_cons (ev_var rfl) ea_nil) (by omega) (fun i σ' H' => ∃ y, σ' = [some (.int b), some (.int l), some (.int (n / pw b i)), some (.ref p), y] ∧ Ex H H' ∧ H' p = some (.lst ((figs b i n).map V.int)))
      (fun H2 e2 => ⟨none, by rw [show n / pw b 0 = n from Int.ediv_one n] <;> rfl, e1.trans e2, e2 p _ hp⟩) ?_ ?_
    · rintro i σ' H' hi ⟨y, rfl, e, hp'⟩
      refine q_app hp' (ev_var rfl) (ev_op (ev_var rfl) (ev_var rfl) (rv_I (by first | decide | omega))) (by rw [List.length_map, figs_length]; omega) fun H2 e2 => ?_
      refine s_asg (ev_op (ev_var rfl) (ev_var rfl) (rv_I (by first | exact ⟨by decide, by decide⟩ | exact ⟨by omega, by omega⟩))) fun H3 e3 => ⟨_, by rw [div_pw (by omega)] <;> rfl, (ex_set e e2 np).trans e3, ?_⟩
      refine e3 p _ (upd_same.trans ?_)
      rw [figs_succ, List.map_append] <;> rfl
    · rintro σ' H' ⟨y, rfl, e, hp'⟩
      exact s_ret (ev_var rfl) fun H2 e2 => q p H2 np (e.trans e2) (e2 p _ hp')
def sp_written_by (K : PySem.W.Frag) (mg : Str → Option Value) : Sp := fun vs H Q _ => ∃ (b : Int) (p : Addr) (ds : List Int), vs = [.int b, .ref p] ∧ SqL K H p (ds.map V.int) ∧ (2 ≤ b ∧ b ≤ 12) ∧ RetV (.int (wr b ds)) H Q
theorem sp_written_v {K : PySem.W.Frag} {mg : Str → Option Value} {b : Int} {p : Addr} {ds : List Int} {H : Hp} (hs : SqL K H p (ds.map V.int)) (h : 2 ≤ b ∧ b ≤ 12) : SpV (sp_written_by K mg) [.int b, .ref p] H (.int (wr b ds)) :=
  fun _ e _ q _ => ⟨b, p, ds, rfl, ex_l e hs, h, q⟩
theorem wr_take {b : Int} {ds : List Int} {i : Nat} {d : Int} (h : ds[i]? = some d) : wr b (ds.take (i + 1)) = wr b (ds.take i) * b + d := by
  rw [List.take_add_one, h]
  exact wr_append b _ d
theorem item_of {ns : List Int} {i : Nat} {y : V} (hi : (ns.map V.int)[i]? = some y) : ∃ z, ns[i]? = some z ∧ y = V.int z := by
  rw [List.getElem?_map] at hi
  cases e : ns[i]? with
  | none =>
    rw [e] at hi
    cases hi
  | some z =>
    rw [e] at hi
    exact ⟨z, rfl, (Option.some.inj hi).symm⟩
abbrev s_written_by : Stmt := topS 14
abbrev N_written_by : List Str := ["base", "figures", "found", "figure"]
theorem sc_written_by : FnScope N_written_by ["base", "figures"] (defScope s_written_by) := ⟨rfl, rfl, rfl, by decide +kernel, rfl, by decide +kernel, by decide +kernel⟩
theorem ok_written_by {f : Addr} {fd : FuncData} (F : Fun K "written_by" "written_by" s_written_by f fd) (B : Bf K mg) : FnOk P w K mg base CX0 1 f fd ["base", "figures"] (sp_written_by K mg) := by
  refine F.ok (k := 0) sc_written_by (fun vs H Q E h => ?_) (fun cdv A outer s H vs Q E hr h => ?_)
  · obtain ⟨b, p, ds, rfl, _⟩ := h
    rfl
  · obtain ⟨b, p, ds, rfl, hs, ⟨h1, h2⟩, q⟩ := h
    refine ⟨_, (pss_cons (ps_set (i := 2) sc_written_by.nd rfl (Or.inl rfl) pe_int)
          (pss_cons (ps_for PassesOwn.never rfl (pi_list (pv 1)) (pg_name (i := 3) sc_written_by.nd rfl (Or.inl rfl)) (pss_one (ps_set (i := 2) sc_written_by.nd rfl (Or.inl rfl) (pe_op op_add (pe_op op_mul (pv 2) (pv 0)) (pv 3)))))
          (pss_one (ps_ret (pv 2))))), ?_⟩
    refine q_asg ev_c fun H1 e1 => ?_
    refine q_forLn (ev_var rfl) (ex_l e1 hs) (fun i σ' H' => ∃ y, σ' = [some (.int b), some (.ref p), some (.int (wr b (ds.take i))), y] ∧ Ex H H') (fun H2 e2 => ⟨none, rfl, e1.trans e2⟩) (fun i σ' H' _ ⟨_, _, e⟩ => ex_l e hs) ?_ ?_
    · rintro i x σ' H' hi ⟨y, rfl, e⟩
      obtain ⟨d, hd, rfl⟩ := item_of hi
      exact s_asg (ev_op (ev_op (ev_var rfl) (ev_var rfl) (rv_I (by first | exact Or.inr ⟨by omega, by omega⟩ | exact Or.inl ⟨by omega, by omega⟩))) (ev_var rfl) rv_I0) fun H2 e2 => ⟨_, by rw [wr_take hd] <;> rfl, e.trans e2⟩
    · rintro σ' H' ⟨y, rfl, e⟩
      rw [List.length_map, List.take_length]
      exact s_ret (ev_var rfl) fun H2 e2 => q H2 (e.trans e2)
def sp_step_of (K : PySem.W.Frag) (mg : Str → Option Value) : Sp := sp3 (fun b l n => 2 ≤ b ∧ b ≤ 12 ∧ 1 ≤ l ∧ l ≤ 8) (fun b l n => .int (stepM b l.toNat n))
abbrev s_step_of : Stmt := topS 15
abbrev N_step_of : List Str := ["base", "length", "number", "rising"]
theorem sc_step_of : FnScope N_step_of ["base", "length", "number"] (defScope s_step_of) := ⟨rfl, rfl, rfl, by decide +kernel, rfl, by decide +kernel, by decide +kernel⟩
theorem ok_step_of {f : Addr} {fd : FuncData} (F : Fun K "step_of" "step_of" s_step_of f fd) (B : Bf K mg) (c_figures_of : Fn P w K mg base 1 "figures_of" ["base", "length", "number"] (sp_figures_of K mg)) (c_written_by : Fn P w K mg base 1 "written_by" ["base", "figures"] (sp_written_by K mg)) : FnOk P w K mg base CX0 2 f fd ["base", "length", "number"] (sp_step_of K mg) := by
  refine F.ok (k := 1) sc_step_of (fun vs H Q E h => ?_) (fun cdv A outer s H vs Q E hr h => ?_)
  · obtain ⟨a, b, c, rfl, _⟩ := h
    rfl
  · obtain ⟨b, l, n, rfl, ⟨h1, h2, h3, h4⟩, q⟩ := h
    refine ⟨_, (pss_cons (ps_set (i := 3) sc_step_of.nd rfl (Or.inl rfl) (pe_callB cr_sortedI (by rfl) B.b_sorted (by decide +kernel) (pa_cons (pe_fn c_figures_of (hr.mono (by decide)) (by rfl) (pa_cons (pv 0) (pa_cons (pv 1) (pa_cons (pv 2) pa_nil)))) pa_nil)))
          (pss_one (ps_ret (pe_op op_sub (pe_fn c_written_by (hr.mono (by decide)) (by rfl) (pa_cons (pv 0) (pa_cons (pe_revL (pv 3)) pa_nil))) (pe_fn c_written_by (hr.mono (by decide)) (by rfl) (pa_cons (pv 0) (pa_cons (pv 3) pa_nil))))))), ?_⟩
    refine q_asgL (el_sortedN (el_call (ea_cons (ev_var rfl) (ea_cons (ev_var rfl) (ea_cons (ev_var rfl) ea_nil))) (sp3L_l ⟨h1, h2, h3, h4⟩))) fun p H1 np e1 hp => ?_
    refine s_ret (ev_op (ev_call2L (ev_var rfl) (el_rev (ev_var rfl) (sq_of hp)) fun p2 H2 e2 hp2 => sp_written_v (ds := (srt (figs b l.toNat n)).reverse) (by rw [List.map_reverse]; exact sq_of hp2) ⟨h1, h2⟩)
      (ev_call (ea_cons (ev_var rfl) (ea_cons (ev_var rfl) ea_nil)) (sp_written_v (sq_of hp) ⟨h1, h2⟩)) rv_I0) fun H2 e2 => q H2 (e1.trans e2)
def sp_step (K : PySem.W.Frag) (mg : Str → Option Value) : Sp := sp3 Dom (fun b l n => .int (stepM b l.toNat n))
abbrev s_step : Stmt := topS 16
abbrev N_step : List Str := ["base", "length", "number"]
theorem sc_step : FnScope N_step ["base", "length", "number"] (defScope s_step) := ⟨rfl, rfl, rfl, by decide +kernel, rfl, by decide +kernel, by decide +kernel⟩
theorem ok_step {f : Addr} {fd : FuncData} (F : Fun K "step" "step" s_step f fd) (B : Bf K mg) (c_check_number : Fn P w K mg base 3 "check_number" ["base", "length", "number"] (sp_check_number K mg)) (c_step_of : Fn P w K mg base 2 "step_of" ["base", "length", "number"] (sp_step_of K mg)) : FnOk P w K mg base CX0 4 f fd ["base", "length", "number"] (sp_step K mg) := by
  refine F.ok (k := 3) sc_step (fun vs H Q E h => ?_) (fun cdv A outer s H vs Q E hr h => ?_)
  · obtain ⟨a, b, c, rfl, _⟩ := h
    rfl
  · obtain ⟨b, l, n, rfl, hd, q⟩ := h
    have hd0 := hd.1
    refine ⟨_, (pss_cons (ps_expr (pe_fn c_check_number (hr.mono (by decide)) (by rfl) (pa_cons (pv 0) (pa_cons (pv 1) (pa_cons (pv 2) pa_nil)))))
          (pss_one (ps_ret (pe_fn c_step_of (hr.mono (by decide)) (by rfl) (pa_cons (pv 0) (pa_cons (pv 1) (pa_cons (pv 2) pa_nil))))))), ?_⟩
    refine q_drop (ev_call (ea_cons (ev_var rfl) (ea_cons (ev_var rfl) (ea_cons (ev_var rfl) ea_nil))) (sp3_v (by first | assumption | omega))) fun H1 e1 => ?_
    exact s_ret (ev_call (ea_cons (ev_var rfl) (ea_cons (ev_var rfl) (ea_cons (ev_var rfl) ea_nil))) (sp3_v (by first | assumption | omega))) fun H2 e2 => q H2 (e1.trans e2)
def sp_course_of (K : PySem.W.Frag) (mg : Str → Option Value) : Sp := SpCourse
abbrev s_course_of : Stmt := topS 17
abbrev N_course_of : List Str := ["base", "length", "number", "found", "places"]
theorem sc_course_of : FnScope N_course_of ["base", "length", "number"] (defScope s_course_of) := ⟨rfl, rfl, rfl, by decide +kernel, rfl, by decide +kernel, by decide +kernel⟩
theorem ok_course_of {f : Addr} {fd : FuncData} (F : Fun K "course_of" "course_of" s_course_of f fd) (B : Bf K mg) (c_step_of : Fn P w K mg base 2 "step_of" ["base", "length", "number"] (sp_step_of K mg)) : FnOk P w K mg base CX0 3 f fd ["base", "length", "number"] (sp_course_of K mg) := by
  refine F.ok (k := 2) sc_course_of (fun vs H Q E h => ?_) (fun cdv A outer s H vs Q E hr h => ?_)
  · obtain ⟨b, l, n, rfl, _⟩ := h
    rfl
  · obtain ⟨b, l, n, rfl, hbl, q⟩ := h
    have hbl' := hbl
    obtain ⟨h1, h2, h3, h4⟩ := hbl
    refine ⟨_, (pss_cons (ps_par (i := 3) (j := 4) (by rfl) sc_course_of.nd rfl rfl (by decide) rfl rfl (pa_cons (pe_lst pa_nil) (pa_cons pe_dnewK pa_nil)) (by rfl))
          (pss_cons (ps_while PassesOwn.never (pt_cmp (pc_dnotin (hu_of hr) (pv 2) (pv 4))) (pss_cons (ps_dput (hu_of hr) (pv 4) (pv 2) (pe_callB call_len_seq (by rfl) B.b_len PySem.boot_len (pa_cons (pv 3) pa_nil)) rfl)
          (pss_cons (ps_expr (pe_bm PySem.F.plainAttrs_list PySem.F.slot_list_append PySem.F.type_list_append mt_append (pv 3) (pa_cons (pv 2) pa_nil)))
          (pss_one (ps_set (i := 2) sc_course_of.nd rfl (Or.inl rfl) (pe_fn c_step_of (hr.mono (by decide)) (by rfl) (pa_cons (pv 0) (pa_cons (pv 1) (pa_cons (pv 2) pa_nil)))))))))
          (pss_one (ps_ret (pe_tup (pa_cons (pv 3) (pa_cons (pe_dget (hu_of hr) (pv 4) (pv 2) (fun _ _ => rfl)) pa_nil))))))), ?_⟩
    refine q_parLD fun p d H1 np nd npd e1 hp hd => ?_
    obtain ⟨f, hf⟩ : ∃ f, f = stepM b l.toNat := ⟨_, rfl⟩
    rw [← hf] at q
    have hap : ∀ m, Apart f n m → m ≤ 20737 := fun m h => by
      rw [hf] at h
      exact apart_le hbl' h
    refine q_while (fun m σ' H' => ∃ i : Nat, m = 20738 - i ∧ Apart f n i ∧ σ' = [some (.int b), some (.int l), some (.int (it f i n)), some (.ref p), some (.ref d)] ∧ Ex H H' ∧ H' p = some (.lst ((orb f n i).map V.int)) ∧ H' d = some (.dK (plc f n i)))
      20738 ⟨0, rfl, Apart.zero f n, rfl, e1, hp, hd⟩ ?_
    rintro m σ' H2 ⟨i, rfl, hA, rfl, e2, hp2, hd2⟩
    have hi := hap i hA
    refine ⟨_, et_B (ev_dnotin (ev_var rfl) (ev_var rfl) hd2), fun hb H3 e3 => ?_, fun hb H3 e3 => ?_⟩
    · have hn : valV (plc f n i) (.inl (it f i n)) = none := by
        cases e : valV (plc f n i) (.inl (it f i n)) with
        | none => rfl
        | some v =>
          rw [e] at hb
          cases hb
      have hA2 := hA.succ (plc_out hn)
      have hi2 := hap _ hA2
      refine ⟨fun σ2 H' => Apart f n (i + 1) ∧ σ2 = [some (.int b), some (.int l), some (.int (it f (i + 1) n)), some (.ref p), some (.ref d)] ∧ Ex H H' ∧ H' p = some (.lst ((orb f n (i + 1)).map V.int)) ∧ H' d = some (.dK (plc f n (i + 1))),
        fun σ2 H' ⟨a1, a2, a3, a4, a5⟩ => ⟨20738 - (i + 1), by omega, i + 1, rfl, a1, a2, a3, a4, a5⟩, ?_⟩
      refine q_dput (ev_len (ev_var rfl) (sq_of (e3 p _ hp2))) (ev_var rfl) (ev_var rfl) (e3 d _ hd2) (by rw [plc_len]; omega) fun H4 e4 => ?_
      rw [putK_new _ hn, List.length_map, orb_len, ← plc_succ]
      have hp4 : (upd H4 d (.dK (plc f n (i + 1)))) p = some (.lst ((orb f n i).map V.int)) := by
        rw [upd_ne npd]
        exact e4 p _ (e3 p _ hp2)
      refine q_app hp4 (ev_var rfl) (ev_var rfl) (by rw [List.length_map, orb_len]; omega) fun H5 e5 => ?_
      refine s_asg (ev_call (ea_cons (ev_var rfl) (ea_cons (ev_var rfl) (ea_cons (ev_var rfl) ea_nil))) (sp3_v (by first | assumption | omega))) fun H6 e6 => ⟨hA2, by rw [← hf] <;> rfl, ?_, ?_, ?_⟩
      · exact (ex_set (Ex.mut ((e2.trans e3).trans e4) nd) e5 np).trans e6
      · refine e6 p _ (upd_same.trans ?_)
        rw [orb_succ, List.map_append] <;> rfl
      · refine e6 d _ ?_
        rw [upd_ne npd.symm]
        exact e5 d _ upd_same
    · cases e : valV (plc f n i) (.inl (it f i n)) with
      | none =>
        rw [e] at hb
        cases hb
      | some v =>
        obtain ⟨c, hc, eb, rfl⟩ := plc_in e
        refine s_retU (eu_tup (ea_cons (ev_var rfl) (ea_cons (ev_dget (ev_var rfl) (ev_var rfl) (e3 d _ hd2) e) ea_nil)) (Nat.le_of_ble_eq_true rfl)) fun t H4 nt e4 ht => ?_
        exact q t p H4 i c ⟨hc, eb, hA⟩ hi np ((e2.trans e3).trans e4) (e4 p _ (e3 p _ hp2)) ht
def sp_after (K : PySem.W.Frag) (mg : Str → Option Value) : Sp := sp4 (fun b l n s => Dom b l n ∧ 0 ≤ s) (fun b l n s => .int (it (stepM b l.toNat) s.toNat n))
theorem at_orb {f : Int → Int} {n : Int} {m : Nat} {k : Int} (h0 : 0 ≤ k) (h1 : k < m) : atI ((orb f n m).map V.int) k = some (.int (it f k.toNat n)) := by
  refine at_of (j := k.toNat) (by omega) ?_
  rw [List.getElem?_map, orb_get (by omega)] <;> rfl
abbrev s_after : Stmt := topS 18
abbrev N_after : List Str := ["base", "length", "number", "steps", "found", "begin"]
theorem sc_after : FnScope N_after ["base", "length", "number", "steps"] (defScope s_after) := ⟨rfl, rfl, rfl, by decide +kernel, rfl, by decide +kernel, by decide +kernel⟩
theorem ok_after {f : Addr} {fd : FuncData} (F : Fun K "after" "after" s_after f fd) (B : Bf K mg) (c_check_number : Fn P w K mg base 3 "check_number" ["base", "length", "number"] (sp_check_number K mg)) (c_course_of : Fn P w K mg base 3 "course_of" ["base", "length", "number"] (sp_course_of K mg)) (c_is_whole : Fn P w K mg base 1 "is_whole" ["thing"] (sp_is_whole K mg)) : FnOk P w K mg base CX0 4 f fd ["base", "length", "number", "steps"] (sp_after K mg) := by
  refine F.ok (k := 3) sc_after (fun vs H Q E h => ?_) (fun cdv A outer s H vs Q E hr h => ?_)
  · obtain ⟨a, b, c, d, rfl, _⟩ := h
    rfl
  · obtain ⟨b, l, n, s0, rfl, ⟨hd, hs⟩, q⟩ := h
    have q : RetV (.int (it (stepM b l.toNat) s0.toNat n)) H Q := q
    have hd0 := hd.1
    refine ⟨_, (pss_cons (ps_expr (pe_fn c_check_number (hr.mono (by decide)) (by rfl) (pa_cons (pv 0) (pa_cons (pv 1) (pa_cons (pv 2) pa_nil)))))
          (pss_cons (ps_if (PW.pt (pw_or (pt_not (pt_val (pe_fn c_is_whole (hr.mono (by decide)) (by rfl) (pa_cons (pv 3) pa_nil)))) (pw_or1 (pt_cmpR op_lt (pv 3) pe_int (nomark _))))) (pss_one ps_never) pss_nil)
          (pss_cons (ps_asg (pe_fn c_course_of (hr.mono (by decide)) (by rfl) (pa_cons (pv 0) (pa_cons (pv 1) (pa_cons (pv 2) pa_nil)))) (pg_tup rfl (pgs_cons (pg_name (i := 4) sc_after.nd rfl (Or.inl rfl)) (pgs_cons (pg_name (i := 5) sc_after.nd rfl (Or.inl rfl)) pgs_nil))))
          (pss_cons (ps_if (pt_cmpR op_lt (pv 3) (pe_callB call_len_seq (by rfl) B.b_len PySem.boot_len (pa_cons (pv 4) pa_nil)) (nomark _)) (pss_one (ps_ret (pe_ix ix_list (pv 4) (pv 3) (fun _ _ => rfl)))) pss_nil)
          (pss_one (ps_ret (pe_ix ix_list (pv 4) (pe_op op_add (pv 5) (pe_op op_mod (pe_op op_sub (pv 3) (pv 5)) (pe_op op_sub (pe_callB call_len_seq (by rfl) B.b_len PySem.boot_len (pa_cons (pv 4) pa_nil)) (pv 5)))) (fun _ _ => rfl)))))))), ?_⟩
    refine q_drop (ev_call (ea_cons (ev_var rfl) (ea_cons (ev_var rfl) (ea_cons (ev_var rfl) ea_nil))) (sp3_v (by first | assumption | omega))) fun H1 e1 => ?_
    refine q_when (et_is (b := false) (et_or (et_not (et_B (ev_call (ea_cons (ev_var rfl) ea_nil) (sp1_v trivial)))) (fun _ => (et_test (ev_op (ev_var rfl) ev_c rv_I0)))) (by simp [hs])) (fun z => nomatch z) fun _ H2 e2 => ?_
    refine q_asg2 (sp_course_p hd0 (ea_cons (ev_var rfl) (ea_cons (ev_var rfl) (ea_cons (ev_var rfl) ea_nil)))) fun x y H3 e3 hR => ?_
    obtain ⟨a, m, c, rfl, rfl, _, hC, hm, ha⟩ := hR
    have hlt := hC.lt
    have hlen : ((orb (stepM b l.toNat) n m).map V.int).length = m := by rw [List.length_map, orb_len]
    obtain ⟨p0, p1, p2⟩ := hC.place hs
    refine q_when (et_test (ev_op (ev_var rfl) (ev_len (ev_var rfl) (sq_of ha)) rv_I0)) (fun hb H4 e4 => ?_) (fun hb H4 e4 => ?_)
    · rw [hlen] at hb
      have hb' := of_decide_eq_true hb
      refine s_ret (ev_op (ev_var rfl) (ev_var rfl) (rv_ixL (sq_of (e4 a _ ha)) (at_orb hs hb'))) fun H5 e5 => q H5 ((((e1.trans e2).trans e3).trans e4).trans e5)
    · rw [hlen] at hb
      have hb' := of_decide_eq_false hb
      have ep : place m c s0 = c + (s0 - c) % ((m : Int) - c) := if_neg hb'
      rw [ep] at p0 p1 p2
      refine s_ret (ev_op (ev_var rfl) (ev_op (ev_var rfl) (ev_op (ev_op (ev_var rfl) (ev_var rfl) rv_I0) (ev_op (by have h := ev_len (K := K) (σ := [some (.int b), some (.int l), some (.int n), some (.int s0), some (.ref a), some (.int (c : Int))]) (ta := tVar 4) (ev_var rfl) (sq_of (e4 a _ ha)); rw [hlen] at h; exact h) (ev_var rfl) rv_I0) (rv_I (by first | decide | omega))) rv_I0) (rv_ixL (sq_of (e4 a _ ha)) (at_orb p0 p1))) fun H5 e5 => ?_
      rw [p2]
      exact q H5 ((((e1.trans e2).trans e3).trans e4).trans e5)
def sp_all_falls (K : PySem.W.Frag) (mg : Str → Option Value) : Sp := fun vs H Q _ => ∃ (b h : Int), vs = [.int b, .int h] ∧ (2 ≤ b ∧ b ≤ 12 ∧ 0 ≤ h ∧ h ≤ 4) ∧
  ∀ p as H2, H p = none → Ex H H2 → Nst H H2 p as (falls b h.toNat) → Q (.ref p) H2
theorem sp_falls_n {K : PySem.W.Frag} {mg : Str → Option Value} {b h : Int} {H : Hp} (hb : 2 ≤ b ∧ b ≤ 12 ∧ 0 ≤ h ∧ h ≤ 4) : SpN (sp_all_falls K mg) [.int b, .int h] H (falls b h.toNat) :=
  fun _ _ _ q _ => ⟨b, h, rfl, hb, q⟩
theorem topD_bound {b : Int} {s : List Int} (hb : 1 ≤ b) (h : Digs b s) : 0 ≤ topD b s ∧ topD b s < b := by
  unfold topD
  cases e : s.getLast? with
  | none => show 0 ≤ b - 1 ∧ b - 1 < b; omega
  | some y => exact h y (List.mem_of_getLast? e)
def fallG (b : Int) (s : List Int) : List (List Int) := (List.range (topD b s + 1).toNat).map fun (far : Nat) => s ++ [(far : Int)]
theorem fall_take {b : Int} {h k : Nat} {s : List Int} (e : (falls b h)[k]? = some s) : ((falls b h).take (k + 1)).flatMap (fallG b) = ((falls b h).take k).flatMap (fallG b) ++ fallG b s := by
  rw [wd e, List.flatMap_append]
  simp
theorem fall_size {b : Int} (h0 : 2 ≤ b) (hb : b ≤ 12) {h : Nat} (hh : h + 1 ≤ 4) (k : Nat) : (((falls b h).take k).flatMap (fallG b)).length ≤ 20736 := by
  have h1 := falls_len h0 hb hh
  have e : falls b (h + 1) = ((falls b h).take k).flatMap (fallG b) ++ ((falls b h).drop k).flatMap (fallG b) := by
    rw [← List.flatMap_append, List.take_append_drop]
    rfl
  rw [e, List.length_append] at h1
  omega
abbrev s_all_falls : Stmt := topS 21
abbrev N_all_falls : List Str := ["base", "many", "found", "turn", "longer", "some", "top", "far"]
theorem sc_all_falls : FnScope N_all_falls ["base", "many"] (defScope s_all_falls) := ⟨rfl, rfl, rfl, by decide +kernel, rfl, by decide +kernel, by decide +kernel⟩
theorem ok_all_falls {f : Addr} {fd : FuncData} (F : Fun K "all_falls" "all_falls" s_all_falls f fd) (B : Bf K mg) : FnOk P w K mg base CX0 1 f fd ["base", "many"] (sp_all_falls K mg) := by
  refine F.ok (k := 0) sc_all_falls (fun vs H Q E h => ?_) (fun cdv A outer s H vs Q E hr h => ?_)
  · obtain ⟨b, h, rfl, _⟩ := h
    rfl
  · obtain ⟨b, h, rfl, ⟨h1, h2, h3, h4⟩, q⟩ := h
    refine ⟨_, (pss_cons (ps_set (i := 2) sc_all_falls.nd rfl (Or.inl rfl) (pe_lst (pa_cons (pe_lst pa_nil) pa_nil)))
          (pss_cons (ps_for PassesOwn.never rfl (pi_range1 (by rfl) B.b_range (pa_cons (pv 1) pa_nil)) (pg_name (i := 3) sc_all_falls.nd rfl (Or.inl rfl)) (pss_cons (ps_set (i := 4) sc_all_falls.nd rfl (Or.inl rfl) (pe_lst pa_nil))
          (pss_cons (ps_for PassesOwn.never rfl (pi_list (pv 2)) (pg_name (i := 5) sc_all_falls.nd rfl (Or.inr rfl)) (pss_cons (ps_set (i := 6) sc_all_falls.nd rfl (Or.inl rfl) (pe_ifExp (pt_cmpR (op_neD hr.units) (pv 5) (pe_lst pa_nil) (nomark _)) (pe_ix ix_list (pv 5) (pe_un un_neg pe_int) (fun _ _ => rfl)) (pe_op op_sub (pv 0) pe_int)))
          (pss_one (ps_expr (pe_bm PySem.F.plainAttrs_list PySem.F.slot_list_extend PySem.F.type_list_extend mt_extend (pv 4) (pa_cons (pe_lc (own := [("far", 7)]) (g := (gName 7)) (by rfl) sc_all_falls.nd (pi_range1 (by rfl) B.b_range (pa_cons (pe_op op_add (pv 6) pe_int) pa_nil)) (blkOk_by (own := [("far", 7)]) (N := N_all_falls) (sc := defScope s_all_falls) (by decide +kernel)) (fun _ _ _ _ _ => (pg_name (i := 7) sc_all_falls.nd rfl (Or.inl rfl))) (fun _ _ _ _ _ => pts_nil) (fun _ _ _ _ _ => (pe_op op_cat (pv 5) (pe_lst (pa_cons (pv 7) pa_nil))))) pa_nil))))))
          (pss_one (ps_set (i := 2) sc_all_falls.nd rfl (Or.inl rfl) (pv 4))))))
          (pss_one (ps_ret (pv 2))))), ?_⟩
    refine q_asgN en_one fun p as H1 np e1 hN => ?_
    refine q_forR1 (ea_cons (ev_var rfl) ea_nil) (by omega) (fun i σ' H' => ∃ p as y3 y4 y5 y6 y7, σ' = [some (.int b), some (.int h), some (.ref p), y3, y4, y5, y6, y7] ∧ Ex H H' ∧ Nst H H' p as (falls b i) ∧ H p = none)
      (fun H2 e2 => ⟨p, as, _, _, _, _, _, rfl, e1.trans e2, hN.ex e2, np⟩) ?_ ?_
    · rintro i σ' H2 hi ⟨p, as, y3, y4, y5, y6, y7, rfl, e2, hN, np⟩
      refine q_asgL (el_lst ea_nil (by decide)) fun pl H3 npl e3 hpl => ?_
      refine q_forLn (ev_var rfl) (sq_of (hN.ex e3).top) (fun k σ' H' => ∃ y5 y6, σ' = [some (.int b), some (.int h), some (.ref p), some (.int (i : Int)), some (.ref pl), y5, y6, y7] ∧ Ex H2 H' ∧ ∃ bs, Nst H2 H' pl bs (((falls b i).take k).flatMap (fallG b)))
        (fun H4 e4 => ⟨_, _, rfl, e3.trans e4, [], e4 pl _ hpl, by simp, (fun _ h => nomatch h), rfl⟩) (fun k σ' H' _ ⟨_, _, _, e, _⟩ => sq_of (hN.ex e).top) ?_ ?_
      · rintro k x σ' H4 hk ⟨y5, y6, rfl, e4, bs, hB⟩
        rw [List.getElem?_map] at hk
        cases ea : as[k]? with
        | none =>
          rw [ea] at hk
          cases hk
        | some a =>
          rw [ea] at hk
          have ex : V.ref a = x := Option.some.inj hk
          subst ex
          obtain ⟨s, es, ha⟩ := (hN.ex e4).get ea
          have hs := (falls_mem (b := b) (by omega)).mp (List.mem_of_getElem? es)
          have ht := topD_bound (b := b) (by omega) hs.2.2
          refine q_asg (v := .int (topD b s)) (ev_if (et_test (ev_neNil (ev_var rfl) (sq_of ha))) (fun hb => ?_) (fun hb => ?_)) fun H5 e5 => ?_
          · obtain ⟨y, hy⟩ := getLast_ne (s := s) (by simpa using hb)
            have : topD b s = y := by unfold topD; rw [hy]; rfl
            rw [this]
            exact ev_op (ev_var rfl) (ev_un ev_c ru_neg) (rv_ixL (sq_of ha) (last_at hy))
          · have : s = [] := by simpa using hb
            subst this
            exact (ev_op (ev_var rfl) ev_c rv_I0)
          refine s_extN (hB.ex e5).top (ev_var rfl) (en_lcR1 (fun (far : Nat) => s ++ [(far : Int)]) (ea_cons (ev_op (ev_var rfl) ev_c rv_I0) ea_nil) ⟨by omega, by omega⟩ (fun _ => rfl) fun far H6 e6 hf => el_is (el_catN (ev_var rfl) (e6 a _ (e5 a _ ha)) (el_lst (ea_cons (ev_var rfl) ea_nil) (Nat.le_of_ble_eq_true rfl)) ?_) (by rw [List.map_append] <;> rfl)) ?_ fun p6 as6 H6 np6 e6 hN6 => ?_
          · rw [List.length_map, hs.1]
            show i + 1 ≤ 100000
            omega
          · have g := fall_size h1 h2 (h := i) (by omega) (k + 1)
            rw [fall_take es, List.length_append] at g
            rw [List.length_map, hB.len]
            exact Nat.le_trans g (by decide)
          · refine ⟨_, _, rfl, Ex.mut ((e4.trans e5).trans e6) npl, bs ++ as6, ?_⟩
            rw [fall_take es]
            exact Nst.extend (hB.ex e5) (e4.trans e5) e6 hN6
      · rintro σ' H4 ⟨y5, y6, rfl, e4, bs, hB⟩
        rw [List.length_map, hN.len, List.take_length] at hB
        exact s_asg (ev_var rfl) fun H5 e5 => ⟨pl, bs, _, _, _, _, _, rfl, (e2.trans e4).trans e5, (hB.ex e5).back e2, fresh_back e2 npl⟩
    · rintro σ' H2 ⟨p, as, y3, y4, y5, y6, y7, rfl, e2, hN, np⟩
      exact s_ret (ev_var rfl) fun H3 e3 => q p as H3 np (e2.trans e3) (hN.ex e3)
def sp_made_by (K : PySem.W.Frag) (mg : Str → Option Value) : Sp := fun vs H Q _ => ∃ (b l : Int) (p : Addr) (ds : List Int), vs = [.int b, .int l, .ref p] ∧ SqL K H p (ds.map V.int) ∧ (2 ≤ b ∧ b ≤ 12 ∧ 1 ≤ l ∧ l ≤ 8) ∧ 2 * ds.length ≤ l.toNat ∧ Digs b ds ∧ RetV (.int (mk b l.toNat ds)) H Q
theorem sp_made_v {K : PySem.W.Frag} {mg : Str → Option Value} {b l : Int} {p : Addr} {ds : List Int} {H : Hp} (hs : SqL K H p (ds.map V.int)) (h : 2 ≤ b ∧ b ≤ 12 ∧ 1 ≤ l ∧ l ≤ 8) (hl : 2 * ds.length ≤ l.toNat) (hd : Digs b ds) : SpV (sp_made_by K mg) [.int b, .int l, .ref p] H (.int (mk b l.toNat ds)) :=
  fun _ e _ q _ => ⟨b, l, p, ds, rfl, ex_l e hs, h, hl, hd, q⟩
abbrev s_made_by : Stmt := topS 22
abbrev N_made_by : List Str := ["base", "length", "differences", "found", "at", "far"]
theorem sc_made_by : FnScope N_made_by ["base", "length", "differences"] (defScope s_made_by) := ⟨rfl, rfl, rfl, by decide +kernel, rfl, by decide +kernel, by decide +kernel⟩
theorem ok_made_by {f : Addr} {fd : FuncData} (F : Fun K "made_by" "made_by" s_made_by f fd) (B : Bf K mg) (c_power_of : Fn P w K mg base 1 "power_of" ["base", "many"] (sp_power_of K mg)) : FnOk P w K mg base CX0 2 f fd ["base", "length", "differences"] (sp_made_by K mg) := by
  refine F.ok (k := 1) sc_made_by (fun vs H Q E h => ?_) (fun cdv A outer s H vs Q E hr h => ?_)
  · obtain ⟨b, l, p, ds, rfl, _⟩ := h
    rfl
  · obtain ⟨b, l, p, ds, rfl, hs, ⟨h1, h2, h3, h4⟩, hl, hd, q⟩ := h
    refine ⟨_, (pss_cons (ps_set (i := 3) sc_made_by.nd rfl (Or.inl rfl) pe_int)
          (pss_cons (ps_for PassesOwn.never rfl (pi_enum (by rfl) B.b_enumerate (pa_cons (pv 2) pa_nil)) (pg_tup rfl (pgs_cons (pg_name (i := 4) sc_made_by.nd rfl (Or.inl rfl)) (pgs_cons (pg_name (i := 5) sc_made_by.nd rfl (Or.inl rfl)) pgs_nil))) (pss_one (ps_set (i := 3) sc_made_by.nd rfl (Or.inl rfl) (pe_op op_add (pv 3) (pe_op op_mul (pv 5) (pe_op op_sub (pe_fn c_power_of (hr.mono (by decide)) (by rfl) (pa_cons (pv 0) (pa_cons (pe_op op_sub (pe_op op_sub (pv 1) pe_int) (pv 4)) pa_nil))) (pe_fn c_power_of (hr.mono (by decide)) (by rfl) (pa_cons (pv 0) (pa_cons (pv 4) pa_nil)))))))))
          (pss_one (ps_ret (pv 3))))), ?_⟩
    refine q_asg ev_c fun H1 e1 => ?_
    refine q_forEnum (ea_cons (ev_var rfl) ea_nil) (ex_l e1 hs) (fun i σ' H' => ∃ y4 y5, σ' = [some (.int b), some (.int l), some (.ref p), some (.int (dot b l.toNat 0 (ds.take i))), y4, y5] ∧ Ex H H') (fun H2 e2 => ⟨_, _, rfl, e1.trans e2⟩) (fun i σ' H' _ ⟨_, _, _, e⟩ => ex_l e hs) ?_ ?_
    · rintro i x σ' H2 H3 hi ⟨y4, y5, rfl, e2⟩ e3
      obtain ⟨d, hdi, rfl⟩ := item_of hi
      have hlt := (List.getElem?_eq_some_iff.mp hdi).1
      have hdd := hd d (List.mem_of_getElem? hdi)
      have he : dot b l.toNat 0 (ds.take (i + 1)) = dot b l.toNat 0 (ds.take i) + d * (pw b (l - 1 - (i : Int)).toNat - pw b (i : Int).toNat) := by
        rw [wd hdi, dot_snoc, List.length_take, show min i ds.length = i by omega, Nat.zero_add]
        unfold wgt
        rw [show l.toNat - 1 - i = (l - 1 - (i : Int)).toNat by omega, Int.toNat_natCast]
      exact s_asg (ev_op (ev_var rfl) (ev_op (ev_var rfl) (ev_op (ev_call (ea_cons (ev_var rfl) (ea_cons (ev_op (ev_op (ev_var rfl) ev_c rv_I0) (ev_var rfl) rv_I0) ea_nil)) (sp2_v (by first | exact ⟨by omega, by omega, by omega, by omega⟩ | omega))) (ev_call (ea_cons (ev_var rfl) (ea_cons (ev_var rfl) ea_nil)) (sp2_v (by first | exact ⟨by omega, by omega, by omega, by omega⟩ | omega))) rv_I0) (rv_I (by first | exact Or.inr ⟨by omega, by omega⟩ | exact Or.inl ⟨by omega, by omega⟩))) rv_I0) fun H4 e4 => ⟨_, _, by rw [he] <;> rfl, (e2.trans e3).trans e4⟩
    · rintro σ' H2 ⟨y4, y5, rfl, e2⟩
      rw [List.length_map, List.take_length, dot0 hl]
      exact s_ret (ev_var rfl) fun H3 e3 => q H3 (e2.trans e3)
def sp_differences_to (K : PySem.W.Frag) (mg : Str → Option Value) : Sp := SpDif
abbrev s_differences_to : Stmt := topS 23
abbrev N_differences_to : List Str := ["base", "length", "number", "found", "top", "at", "weight", "far"]
theorem sc_differences_to : FnScope N_differences_to ["base", "length", "number"] (defScope s_differences_to) := ⟨rfl, rfl, rfl, by decide +kernel, rfl, by decide +kernel, by decide +kernel⟩
theorem ok_differences_to {f : Addr} {fd : FuncData} (F : Fun K "differences_to" "differences_to" s_differences_to f fd) (B : Bf K mg) (c_power_of : Fn P w K mg base 1 "power_of" ["base", "many"] (sp_power_of K mg)) : FnOk P w K mg base CX0 2 f fd ["base", "length", "number"] (sp_differences_to K mg) := by
  refine F.ok (k := 1) sc_differences_to (fun vs H Q E h => ?_) (fun cdv A outer s H vs Q E hr h => ?_)
  · obtain ⟨b, l, n, rfl, _⟩ := h
    rfl
  · obtain ⟨b, l, n, rfl, hbl, h0, q1, q2⟩ := h
    obtain ⟨h1, h2, h3, h4⟩ := hbl
    refine ⟨_, (pss_cons (ps_par (i := 3) (j := 4) (by rfl) sc_differences_to.nd rfl rfl (by decide) rfl rfl (pa_cons (pe_lst pa_nil) (pa_cons (pe_op op_sub (pv 0) pe_int) pa_nil)) (by rfl))
          (pss_cons (ps_for PassesOwn.never rfl (pi_range1 (by rfl) B.b_range (pa_cons (pe_op op_fdiv (pv 1) pe_int) pa_nil)) (pg_name (i := 5) sc_differences_to.nd rfl (Or.inl rfl)) (pss_cons (ps_set (i := 6) sc_differences_to.nd rfl (Or.inl rfl) (pe_op op_sub (pe_fn c_power_of (hr.mono (by decide)) (by rfl) (pa_cons (pv 0) (pa_cons (pe_op op_sub (pe_op op_sub (pv 1) pe_int) (pv 5)) pa_nil))) (pe_fn c_power_of (hr.mono (by decide)) (by rfl) (pa_cons (pv 0) (pa_cons (pv 5) pa_nil)))))
          (pss_cons (ps_set (i := 7) sc_differences_to.nd rfl (Or.inl rfl) (pe_op op_fdiv (pv 2) (pv 6)))
          (pss_cons (ps_if (pt_cmpR op_gt (pv 7) (pv 4) (nomark _)) (pss_one (ps_ret pe_non)) pss_nil)
          (pss_cons (ps_expr (pe_bm PySem.F.plainAttrs_list PySem.F.slot_list_append PySem.F.type_list_append mt_append (pv 3) (pa_cons (pv 7) pa_nil)))
          (pss_one (ps_par (i := 4) (j := 2) (by rfl) sc_differences_to.nd rfl rfl (by decide) rfl rfl (pa_cons (pv 7) (pa_cons (pe_op op_sub (pv 2) (pe_op op_mul (pv 7) (pv 6))) pa_nil)) (by rfl))))))))
          (pss_one (ps_ret (pe_ifExp (pt_cmpR op_eq (pv 2) pe_int (nomark _)) (pv 3) pe_non))))), ?_⟩
    refine q_parLV (ev_op (ev_var rfl) ev_c rv_I0) fun p H1 np e1 hp => ?_
    refine q_forR1 (ea_cons (ev_op (ev_var rfl) ev_c (rv_I (by first | exact ⟨by decide, by decide⟩ | exact ⟨by omega, by omega⟩))) ea_nil) ⟨by omega, by omega⟩ (fun k σ' H' => ∃ y5 y6 y7, σ' = [some (.int b), some (.int l), some (.int (rst b l.toNat k 0 n)), some (.ref p), some (.int (topD b (grd b l.toNat k 0 n))), y5, y6, y7] ∧ Ex H H' ∧ H' p = some (.lst ((grd b l.toNat k 0 n).map V.int)) ∧ sinkB (b - 1) (grd b l.toNat k 0 n) = true)
      (fun H2 e2 => ⟨_, _, _, rfl, e1.trans e2, e2 p _ hp, rfl⟩) ?_ ?_
    · rintro k σ' H2 hk ⟨y5, y6, y7, rfl, e2, hp2, hS⟩
      have hwp := wgt_pos (b := b) h1 (L := l.toNat) (a := k) (by omega)
      have hwl := wgt_le h1 h2 (L := l.toNat) (a := k) (by omega)
      have hwe : pw b (l - 1 - (k : Int)).toNat - pw b (k : Int).toNat = wgt b l.toNat k := by
        unfold wgt
        rw [show l.toNat - 1 - k = (l - 1 - (k : Int)).toNat by omega, Int.toNat_natCast]
      refine q_asg (ev_op (ev_call (ea_cons (ev_var rfl) (ea_cons (ev_op (ev_op (ev_var rfl) ev_c rv_I0) (ev_var rfl) rv_I0) ea_nil)) (sp2_v (by first | exact ⟨by omega, by omega, by omega, by omega⟩ | omega))) (ev_call (ea_cons (ev_var rfl) (ea_cons (ev_var rfl) ea_nil)) (sp2_v (by first | exact ⟨by omega, by omega, by omega, by omega⟩ | omega))) rv_I0) fun H3 e3 => ?_
      rw [hwe]
      refine q_asg (ev_op (ev_var rfl) (ev_var rfl) (rv_I (by first | exact ⟨by decide, by decide⟩ | exact ⟨by omega, by omega⟩))) fun H4 e4 => ?_
      have hg : grd b l.toNat (k + 1) 0 n = grd b l.toNat k 0 n ++ [rst b l.toNat k 0 n / wgt b l.toNat k] := by rw [grd_snoc, Nat.zero_add]
      have hsn := sink_snoc (b - 1) (grd b l.toNat k 0 n) (rst b l.toNat k 0 n / wgt b l.toNat k)
      rw [hS, Bool.true_and] at hsn
      refine q_when (et_test (ev_op (ev_var rfl) (ev_var rfl) rv_I0)) (fun hb H5 e5 => ?_) (fun hb H5 e5 => ?_)
      · have hb' := of_decide_eq_true hb
        refine s_ret ev_c fun H6 e6 => q2 (sink_part (k := k + 1) (by omega) ?_) H6 ((((e2.trans e3).trans e4).trans e5).trans e6)
        rw [hg, hsn]
        refine decide_eq_false ?_
        unfold topD at hb'
        omega
      · have hb' := of_decide_eq_false hb
        refine q_app (e5 p _ (e4 p _ (e3 p _ hp2))) (ev_var rfl) (ev_var rfl) (by rw [List.length_map, grd_len]; omega) fun H6 e6 => ?_
        refine s_par (ea_cons (ev_var rfl) (ea_cons (ev_op (ev_var rfl) (ev_op (ev_var rfl) (ev_var rfl) (rv_I (by first | exact Or.inr ⟨by omega, by omega⟩ | exact Or.inl ⟨by omega, by omega⟩))) rv_I0) ea_nil)) fun H7 e7 => ?_
        have er : rst b l.toNat k 0 n - rst b l.toNat k 0 n / wgt b l.toNat k * wgt b l.toNat k = rst b l.toNat (k + 1) 0 n := by
          rw [rst_snoc, Nat.zero_add, Int.emod_def, Int.mul_comm (wgt b l.toNat k)]
        have et : topD b (grd b l.toNat (k + 1) 0 n) = rst b l.toNat k 0 n / wgt b l.toNat k := by
          unfold topD
          rw [hg, List.getLast?_concat]
          rfl
        refine ⟨_, _, _, by rw [← er, et] <;> rfl, (ex_set (((e2.trans e3).trans e4).trans e5) e6 np).trans e7, ?_, ?_⟩
        · rw [hg, List.map_append]
          exact e7 p _ upd_same
        · rw [hg, hsn]
          refine decide_eq_true ?_
          unfold topD at hb'
          omega
    · rintro σ' H2 ⟨y5, y6, y7, rfl, e2, hp2, hS⟩
      have hL2 : (l / 2).toNat = l.toNat / 2 := by omega
      rw [hL2] at hp2 hS
      by_cases hz : rst b l.toNat (l.toNat / 2) 0 n = 0
      · have hd : difB b l.toNat n = true := by
          unfold difB
          rw [hz, hS]
          rfl
        refine s_ret (v := .ref p) (ev_if (et_test (ev_op (ev_var rfl) ev_c (rv_eq rfl))) (fun _ => (ev_var rfl)) (fun hb => ?_)) fun H3 e3 => q1 hd p H3 np (e2.trans e3) (e3 p _ hp2)
        rw [hL2, hz] at hb
        simp at hb
      · have hd : difB b l.toNat n = false := by
          unfold difB
          rw [decide_eq_false hz]
          rfl
        refine s_ret (v := .non) (ev_if (et_test (ev_op (ev_var rfl) ev_c (rv_eq rfl))) (fun hb => ?_) (fun _ => ev_c)) fun H3 e3 => q2 hd H3 (e2.trans e3)
        rw [hL2] at hb
        simp at hb
        exact absurd hb hz
def sp_Came_init (K : PySem.W.Frag) (mg : Str → Option Value) : Sp := fun vs H Q _ => ∃ (p dx : Addr) (m : Int), vs = [.ref p, .int m] ∧ H p = some (.ins (cA mg "Came") dx []) ∧ Q .non (upd H p (.ins (cA mg "Came") dx (numF m)))
theorem ep_make {K : PySem.W.Frag} {mg : Str → Option Value} {σ : L2.St} {E : XK} {ta : TE} {m : Int} {H : Hp} (ha : Ev ta σ H (.int m)) : EvP (tMake (cA mg "Came") (sp_Came_init K mg) [] E (tCons ta tNil)) σ H fun v H2 => ∃ p dx, v = .ref p ∧ H p = none ∧ H2 p = some (.ins (cA mg "Came") dx (numF m)) :=
  fun H1 e Q q => ha H1 e _ fun H2 e2 x dx hx hdx ne => ⟨x, dx, m, rfl, upd_same, rfl, q _ _ (fun a o h => by
    have h2 := e2 a o h
    rw [upd_ne (ne_of_none h2 hx), upd_ne (ne_of_none h2 hx), upd_ne (ne_of_none h2 hdx)]
    exact h2) ⟨x, dx, rfl, fresh_back (e.trans e2) hx, upd_same⟩⟩
abbrev s_Came_init : Stmt := inClass (topS 24) 0
abbrev N_Came_init : List Str := ["self", "number"]
theorem sc_Came_init : FnScope N_Came_init ["self", "number"] (defScope s_Came_init) := ⟨rfl, rfl, rfl, by decide +kernel, rfl, by decide +kernel, by decide +kernel⟩
theorem ok_Came_init {f : Addr} {fd : FuncData} (F : Fun K "__init__" "Came.__init__" s_Came_init f fd) (B : Bf K mg) (T : Cf K mg) : FnOk P w K mg base CX0 1 f fd ["self", "number"] (sp_Came_init K mg) := by
  refine F.ok (k := 0) sc_Came_init (fun vs H Q E h => ?_) (fun cdv A outer s H vs Q E hr h => ?_)
  · obtain ⟨p, dx, m, rfl, _⟩ := h
    rfl
  · obtain ⟨p, dx, m, rfl, hp, q⟩ := h
    refine ⟨_, (pss_one (ps_fld (pv 0) (pv 1) rfl)), ?_⟩
    exact ⟨_, rfl, _, rfl, p, _, dx, [], rfl, hp, T.cl_Came, T.nF, (by show 0 < 1000; decide), q⟩
def sp_Came_shows (K : PySem.W.Frag) (mg : Str → Option Value) : Sp := fun vs H Q _ => ∃ (p dx : Addr) (b l n m : Int), vs = [.ref p, .int b, .int l, .int n] ∧ H p = some (.ins (cA mg "Came") dx (numF m)) ∧ (2 ≤ b ∧ b ≤ 12 ∧ 1 ≤ l ∧ l ≤ 8) ∧ RetV (.bl (cms b l.toNat m n)) H Q
theorem sp_cshows_v {K : PySem.W.Frag} {mg : Str → Option Value} {p dx : Addr} {b l n m : Int} {H : Hp} (h : H p = some (.ins (cA mg "Came") dx (numF m))) (hb : 2 ≤ b ∧ b ≤ 12 ∧ 1 ≤ l ∧ l ≤ 8) : SpV (sp_Came_shows K mg) [.ref p, .int b, .int l, .int n] H (.bl (cms b l.toNat m n)) :=
  fun _ e _ q _ => ⟨p, dx, b, l, n, m, rfl, e p _ h, hb, q⟩
abbrev s_Came_shows : Stmt := inClass (topS 24) 1
abbrev N_Came_shows : List Str := ["self", "base", "length", "number"]
theorem sc_Came_shows : FnScope N_Came_shows ["self", "base", "length", "number"] (defScope s_Came_shows) := ⟨rfl, rfl, rfl, by decide +kernel, rfl, by decide +kernel, by decide +kernel⟩
theorem ok_Came_shows {f : Addr} {fd : FuncData} (F : Fun K "shows" "Came.shows" s_Came_shows f fd) (B : Bf K mg) (T : Cf K mg) (c_step_of : Fn P w K mg base 2 "step_of" ["base", "length", "number"] (sp_step_of K mg)) (c_power_of : Fn P w K mg base 1 "power_of" ["base", "many"] (sp_power_of K mg)) : FnOk P w K mg base CX0 3 f fd ["self", "base", "length", "number"] (sp_Came_shows K mg) := by
  refine F.ok (k := 2) sc_Came_shows (fun vs H Q E h => ?_) (fun cdv A outer s H vs Q E hr h => ?_)
  · obtain ⟨p, dx, b, l, n, m, rfl, _⟩ := h
    rfl
  · obtain ⟨p, dx, b, l, n, m, rfl, hp, hbl, q⟩ := h
    refine ⟨_, (pss_cons (ps_if (pt_not (pt_chain op_le op_lt pe_int (pe_fld (pv 0) rfl) (pe_fn c_power_of (hr.mono (by decide)) (by rfl) (pa_cons (pv 1) (pa_cons (pv 2) pa_nil))))) (pss_one (ps_ret pe_bl)) pss_nil)
          (pss_one (ps_ret (pe_cmpR op_eq (pe_fn c_step_of (hr.mono (by decide)) (by rfl) (pa_cons (pv 1) (pa_cons (pv 2) (pa_cons (pe_fld (pv 0) rfl) pa_nil)))) (pv 3) (nomark _))))), ?_⟩
    refine q_when (et_not (et_test (ev_chain ev_c (ev_fld (ev_var rfl) hp T.cl_Came T.nF (numF_at m)) rv_I0 (ev_call (ea_cons (ev_var rfl) (ea_cons (ev_var rfl) ea_nil)) (sp2_v (by first | exact ⟨by omega, by omega, by omega, by omega⟩ | omega))) rv_I0))) (fun hb H1 e1 => ?_) (fun hb H1 e1 => ?_)
    · have hc : cms b l.toNat m n = false := by
        unfold cms
        have hb2 : (decide (0 ≤ m) && decide (m < pw b l.toNat)) = false := (Bool.not_eq_true' _).mp hb
        rw [hb2]
        rfl
      rw [hc] at q
      exact s_ret ev_c fun H2 e2 => q H2 (e1.trans e2)
    · have hb2 : (decide (0 ≤ m) && decide (m < pw b l.toNat)) = true := (Bool.not_eq_false' _).mp hb
      have hc : cms b l.toNat m n = decide (V.int (stepM b l.toNat m) = V.int n) := by
        unfold cms
        rw [hb2]
        simp
      rw [hc] at q
      exact s_ret (ev_op (ev_call (ea_cons (ev_var rfl) (ea_cons (ev_var rfl) (ea_cons (ev_fld (ev_var rfl) (e1 p _ hp) T.cl_Came T.nF (numF_at m)) ea_nil))) (sp3_v (by first | assumption | omega))) (ev_var rfl) (rv_eq rfl)) fun H2 e2 => q H2 (e1.trans e2)
def sp_Never_shows (K : PySem.W.Frag) (mg : Str → Option Value) : Sp := fun vs H Q _ => ∃ (x : V) (b l n : Int), vs = [x, .int b, .int l, .int n] ∧ (2 ≤ b ∧ b ≤ 12 ∧ 1 ≤ l ∧ l ≤ 8) ∧ 0 ≤ n ∧ RetV (.bl (!difB b l.toNat n)) H Q
theorem sp_nshows_v {K : PySem.W.Frag} {mg : Str → Option Value} {x : V} {b l n : Int} {H : Hp} (hb : 2 ≤ b ∧ b ≤ 12 ∧ 1 ≤ l ∧ l ≤ 8) (h0 : 0 ≤ n) : SpV (sp_Never_shows K mg) [x, .int b, .int l, .int n] H (.bl (!difB b l.toNat n)) :=
  fun _ _ _ q _ => ⟨x, b, l, n, rfl, hb, h0, q⟩
abbrev s_Never_shows : Stmt := inClass (topS 25) 0
abbrev N_Never_shows : List Str := ["self", "base", "length", "number"]
theorem sc_Never_shows : FnScope N_Never_shows ["self", "base", "length", "number"] (defScope s_Never_shows) := ⟨rfl, rfl, rfl, by decide +kernel, rfl, by decide +kernel, by decide +kernel⟩
theorem ok_Never_shows {f : Addr} {fd : FuncData} (F : Fun K "shows" "Never.shows" s_Never_shows f fd) (B : Bf K mg) (T : Cf K mg) (c_differences_to : Fn P w K mg base 2 "differences_to" ["base", "length", "number"] (sp_differences_to K mg)) : FnOk P w K mg base CX0 3 f fd ["self", "base", "length", "number"] (sp_Never_shows K mg) := by
  refine F.ok (k := 2) sc_Never_shows (fun vs H Q E h => ?_) (fun cdv A outer s H vs Q E hr h => ?_)
  · obtain ⟨x, b, l, n, rfl, _⟩ := h
    rfl
  · obtain ⟨x, b, l, n, rfl, hbl, h0, q⟩ := h
    refine ⟨_, (pss_one (ps_ret (pe_cmpR op_isN (pe_fn c_differences_to (hr.mono (by decide)) (by rfl) (pa_cons (pv 1) (pa_cons (pv 2) (pa_cons (pv 3) pa_nil)))) pe_non (nomark _)))), ?_⟩
    exact s_ret (ev_difN hbl h0 (ea_cons (ev_var rfl) (ea_cons (ev_var rfl) (ea_cons (ev_var rfl) ea_nil)))) q
def sp_came (K : PySem.W.Frag) (mg : Str → Option Value) : Sp := fun vs H Q _ => ∃ (b l n : Int), vs = [.int b, .int l, .int n] ∧ Dom b l n ∧
  (difB b l.toNat n = true → ∀ (p dx : Addr) (m : Int) (H2 : Hp), Dom b l m → stepM b l.toNat m = n → H p = none → Ex H H2 → H2 p = some (.ins (cA mg "Came") dx (numF m)) → Q (.ref p) H2) ∧
  (difB b l.toNat n = false → ∀ (p dx : Addr) (H2 : Hp), H p = none → Ex H H2 → H2 p = some (.ins (cA mg "Never") dx []) → Q (.ref p) H2)
/-- what came tells -/
def CameAt (mg : Str → Option Value) (b l n : Int) (p : Addr) (H : Hp) : Prop :=
  (difB b l.toNat n = true ∧ ∃ (dx : Addr) (m : Int), Dom b l m ∧ stepM b l.toNat m = n ∧ H p = some (.ins (cA mg "Came") dx (numF m))) ∨ (difB b l.toNat n = false ∧ ∃ dx : Addr, H p = some (.ins (cA mg "Never") dx []))
theorem sp_came_p {K : PySem.W.Frag} {mg : Str → Option Value} {σ : L2.St} {E : XK} {ta : TA} {b l n : Int} {H : Hp} (h : Dom b l n) (ha : EvA ta σ H [.int b, .int l, .int n]) :
    EvP (tCall (sp_came K mg) [] E ta) σ H fun v H2 => ∃ p, v = .ref p ∧ H p = none ∧ CameAt mg b l n p H2 :=
  fun H1 e Q q => ha H1 e _ fun H2 e2 => ⟨b, l, n, rfl, h, fun hd p dx m H3 d1 d2 np e3 h3 => q _ H3 (e2.trans e3) ⟨p, rfl, fresh_back (e.trans e2) np, .inl ⟨hd, dx, m, d1, d2, h3⟩⟩, fun hd p dx H3 np e3 h3 => q _ H3 (e2.trans e3) ⟨p, rfl, fresh_back (e.trans e2) np, .inr ⟨hd, dx, h3⟩⟩⟩
abbrev s_came : Stmt := topS 27
abbrev N_came : List Str := ["base", "length", "number", "found"]
theorem sc_came : FnScope N_came ["base", "length", "number"] (defScope s_came) := ⟨rfl, rfl, rfl, by decide +kernel, rfl, by decide +kernel, by decide +kernel⟩
theorem ok_came {f : Addr} {fd : FuncData} (F : Fun K "came" "came" s_came f fd) (B : Bf K mg) (T : Cf K mg) (c_check_number : Fn P w K mg base 3 "check_number" ["base", "length", "number"] (sp_check_number K mg)) (c_differences_to : Fn P w K mg base 2 "differences_to" ["base", "length", "number"] (sp_differences_to K mg)) (c_written_by : Fn P w K mg base 1 "written_by" ["base", "figures"] (sp_written_by K mg)) (M_Came : Mkr P w K mg base 1 (cA mg "Came") ["self", "number"] (sp_Came_init K mg)) : FnOk P w K mg base CX0 4 f fd ["base", "length", "number"] (sp_came K mg) := by
  refine F.ok (k := 3) sc_came (fun vs H Q E h => ?_) (fun cdv A outer s H vs Q E hr h => ?_)
  · obtain ⟨b, l, n, rfl, _⟩ := h
    rfl
  · obtain ⟨b, l, n, rfl, hd, q1, q2⟩ := h
    have hbl := hd.1
    have h0 := hd.2.1
    refine ⟨_, (pss_cons (ps_expr (pe_fn c_check_number (hr.mono (by decide)) (by rfl) (pa_cons (pv 0) (pa_cons (pv 1) (pa_cons (pv 2) pa_nil)))))
          (pss_cons (ps_set (i := 3) sc_came.nd rfl (Or.inl rfl) (pe_fn c_differences_to (hr.mono (by decide)) (by rfl) (pa_cons (pv 0) (pa_cons (pv 1) (pa_cons (pv 2) pa_nil)))))
          (pss_cons (ps_if (pt_cmpR op_isN (pv 3) pe_non (nomark _)) (pss_one (ps_ret (pe_makeO T.mk_Never (by rfl) T.g_Never))) pss_nil)
          (pss_one (ps_ret (pe_mk M_Came (hr.mono (by decide)) (by rfl) T.g_Came (pa_cons (pe_fn c_written_by (hr.mono (by decide)) (by rfl) (pa_cons (pv 0) (pa_cons (pe_op op_cat (pv 3) (pe_op op_rep (pe_lst (pa_cons pe_int pa_nil)) (pe_op op_sub (pv 1) (pe_callB call_len_seq (by rfl) B.b_len PySem.boot_len (pa_cons (pv 3) pa_nil))))) pa_nil))) pa_nil))))))), ?_⟩
    refine q_drop (ev_call (ea_cons (ev_var rfl) (ea_cons (ev_var rfl) (ea_cons (ev_var rfl) ea_nil))) (sp3_v (by first | assumption | omega))) fun H1 e1 => ?_
    cases hdb : difB b l.toNat n with
    | true =>
      refine q_asgL (el_call (ea_cons (ev_var rfl) (ea_cons (ev_var rfl) (ea_cons (ev_var rfl) ea_nil))) (sp_dif_l hbl h0 hdb)) fun p H2 np e2 hp => ?_
      refine q_when (et_is (b := false) (et_test (ev_op (ev_var rfl) ev_c rv_isN)) (by simp)) (fun z => nomatch z) fun _ H3 e3 => ?_
      obtain ⟨d1, d2, d3⟩ := dif_ok hbl.1 h0 hdb
      have hm := made_step hbl.1 d1 d2
      rw [d3] at hm
      have hp3 := e3 p _ hp
      refine s_retP (ep_make (m := wr b (dif b l.toNat n ++ List.replicate (l.toNat - (dif b l.toNat n).length) 0)) (ev_call2L (ev_var rfl) (el_catN (ev_var rfl) hp3 (el_rep (el_lst (ea_cons ev_c ea_nil) (Nat.le_of_ble_eq_true rfl)) (ev_op (ev_var rfl) (ev_lenI (ev_var rfl) (sq_of hp3)) rv_I0) (by rw [d1]; omega) (by decide)) ?_) fun p4 H4 e4 hp4 => sp_written_v (ds := dif b l.toNat n ++ List.replicate (l.toNat - (dif b l.toNat n).length) 0) ?_ ⟨hbl.1, hbl.2.1⟩)) fun v H4 e4 hR => ?_
      · rw [List.length_map, d1]
        simp
        omega
      · have er : ((dif b l.toNat n).map V.int ++ (List.replicate (l - ((dif b l.toNat n).length : Int)).toNat [V.int 0]).flatten) = (dif b l.toNat n ++ List.replicate (l.toNat - (dif b l.toNat n).length) 0).map V.int := by
          rw [List.map_append, List.map_replicate, show (l - ((dif b l.toNat n).length : Int)).toNat = l.toNat - (dif b l.toNat n).length by omega]
          congr 1
          generalize l.toNat - (dif b l.toNat n).length = k
          induction k with
          | zero => rfl
          | succ k ih => rw [List.replicate_succ, List.flatten_cons, ih, List.replicate_succ] <;> rfl
        rw [er] at hp4
        exact sq_of hp4
      · obtain ⟨p5, dx, rfl, np5, hp5⟩ := hR
        exact q1 hdb p5 dx _ H4 ⟨hbl, hm.1⟩ hm.2 (fresh_back ((e1.trans e2).trans e3) np5) (((e1.trans e2).trans e3).trans e4) hp5
    | false =>
      refine q_asg (ev_call (ea_cons (ev_var rfl) (ea_cons (ev_var rfl) (ea_cons (ev_var rfl) ea_nil))) (sp_dif_v hbl h0 hdb)) fun H2 e2 => ?_
      refine q_when (et_is (b := true) (et_test (ev_op (ev_var rfl) ev_c rv_isN)) (by simp)) (fun _ H3 e3 => ?_) (fun z => nomatch z)
      refine s_retP ep_makeO fun v H4 e4 hR => ?_
      obtain ⟨p, dx, rfl, np, hp⟩ := hR
      exact q2 hdb p dx H4 (fresh_back ((e1.trans e2).trans e3) np) (((e1.trans e2).trans e3).trans e4) hp
def sp_turns_of (K : PySem.W.Frag) (mg : Str → Option Value) : Sp := fun vs H Q _ => ∃ (p : Addr) (r : List Int), vs = [.ref p] ∧ SqL K H p (r.map V.int) ∧ r.length ≤ 100 ∧ RetV (.int (trn r)) H Q
theorem sp_turns_v {K : PySem.W.Frag} {mg : Str → Option Value} {p : Addr} {r : List Int} {H : Hp} (hs : SqL K H p (r.map V.int)) (hl : r.length ≤ 100) : SpV (sp_turns_of K mg) [.ref p] H (.int (trn r)) :=
  fun _ e _ q _ => ⟨p, r, rfl, ex_l e hs, hl, q⟩
theorem alk_bound : ∀ (l : List Int) (x : Int), 1 ≤ alkR (x :: l) ∧ alkR (x :: l) ≤ l.length + 1
  | [], x => ⟨Nat.le_refl _, Nat.le_refl _⟩
  | y :: l, x => by
    have ih := alk_bound l y
    show 1 ≤ (if y = x then alkR (y :: l) + 1 else 1) ∧ (if y = x then alkR (y :: l) + 1 else 1) ≤ l.length + 1 + 1
    split <;> omega
theorem trn_snoc (l : List Int) (x : Int) : trn (l ++ [x]) = trn l * ((l.length : Int) + 1) / (alkR (l ++ [x]).reverse : Int) := by
  unfold trn
  rw [List.reverse_append]
  show trnR (x :: l.reverse) = _
  show trnR l.reverse * ((l.reverse.length : Int) + 1) / _ = _
  rw [List.length_reverse]
  rfl
theorem alk_snoc (l : List Int) (x : Int) : alkR (l ++ [x]).reverse = if l.getLast? = some x then alkR l.reverse + 1 else 1 := by
  rcases List.eq_nil_or_concat l with e | ⟨m, y, e⟩
  · subst e
    rfl
  · rw [List.concat_eq_append] at e
    subst e
    rw [List.getLast?_concat, List.reverse_append, List.reverse_append]
    show (if y = x then alkR (y :: m.reverse) + 1 else 1) = if some y = some x then alkR (y :: m.reverse) + 1 else 1
    by_cases q : y = x
    · rw [if_pos q, if_pos (by rw [q])]
    · rw [if_neg q, if_neg (fun h => q (Option.some.inj h))]
abbrev s_turns_of : Stmt := topS 28
abbrev N_turns_of : List Str := ["figures", "found", "alike", "at", "figure"]
theorem sc_turns_of : FnScope N_turns_of ["figures"] (defScope s_turns_of) := ⟨rfl, rfl, rfl, by decide +kernel, rfl, by decide +kernel, by decide +kernel⟩
theorem ok_turns_of {f : Addr} {fd : FuncData} (F : Fun K "turns_of" "turns_of" s_turns_of f fd) (B : Bf K mg) : FnOk P w K mg base CX0 1 f fd ["figures"] (sp_turns_of K mg) := by
  refine F.ok (k := 0) sc_turns_of (fun vs H Q E h => ?_) (fun cdv A outer s H vs Q E hr h => ?_)
  · obtain ⟨p, r, rfl, _⟩ := h
    rfl
  · obtain ⟨p, r, rfl, hs, hl, q⟩ := h
    refine ⟨_, (pss_cons (ps_asg (pe_tup (pa_cons pe_int (pa_cons pe_int pa_nil))) (pg_tup rfl (pgs_cons (pg_name (i := 1) sc_turns_of.nd rfl (Or.inl rfl)) (pgs_cons (pg_name (i := 2) sc_turns_of.nd rfl (Or.inl rfl)) pgs_nil))))
          (pss_cons (ps_for PassesOwn.never rfl (pi_enum (by rfl) B.b_enumerate (pa_cons (pv 0) pa_nil)) (pg_tup rfl (pgs_cons (pg_name (i := 3) sc_turns_of.nd rfl (Or.inl rfl)) (pgs_cons (pg_name (i := 4) sc_turns_of.nd rfl (Or.inl rfl)) pgs_nil))) (pss_cons (ps_set (i := 2) sc_turns_of.nd rfl (Or.inl rfl) (pe_ifExp (PW.pt (pw_and (pt_cmpR op_gt (pv 3) pe_int (nomark _)) (pw_and1 (pt_cmpR op_eq (pe_ix ix_list (pv 0) (pe_op op_sub (pv 3) pe_int) (fun _ _ => rfl)) (pv 4) (nomark _))))) (pe_op op_add (pv 2) pe_int) pe_int))
          (pss_one (ps_set (i := 1) sc_turns_of.nd rfl (Or.inl rfl) (pe_op op_fdiv (pe_op op_mul (pv 1) (pe_op op_add (pv 3) pe_int)) (pv 2))))))
          (pss_one (ps_ret (pv 1))))), ?_⟩
    refine q_asgU2 (eu_tup (ea_cons ev_c (ea_cons ev_c ea_nil)) (by decide)) fun H1 e1 => ?_
    refine q_forEnum (ea_cons (ev_var rfl) ea_nil) (ex_l e1 hs) (fun k σ' H' => ∃ y3 y4, σ' = [some (.ref p), some (.int (trn (r.take k))), some (.int (alkR (r.take k).reverse : Int)), y3, y4] ∧ Ex H H') (fun H2 e2 => ⟨_, _, rfl, e1.trans e2⟩) (fun k σ' H' _ ⟨_, _, _, e⟩ => ex_l e hs) ?_ ?_
    · rintro k x σ' H2 H3 hk ⟨y3, y4, rfl, e2⟩ e3
      obtain ⟨d, hd, rfl⟩ := item_of hk
      have hlt := (List.getElem?_eq_some_iff.mp hd).1
      have hkl : (r.take k).length = k := by rw [List.length_take]; omega
      have hab : 1 ≤ alkR (r.take (k + 1)).reverse ∧ alkR (r.take (k + 1)).reverse ≤ k + 1 := by
        rw [wd hd, List.reverse_append]
        have := alk_bound (r.take k).reverse d
        rw [List.length_reverse, hkl] at this
        exact this
      have hs3 := ex_l (e2.trans e3) hs
      have hprev : ∀ j : Nat, k = j + 1 → ∃ y, r[j]? = some y ∧ (r.take k).getLast? = some y := fun j hj => by
        obtain ⟨y, hy⟩ : ∃ y, r[j]? = some y := ⟨r[j]'(by omega), List.getElem?_eq_getElem _⟩
        exact ⟨y, hy, by rw [hj, wd hy, List.getLast?_concat]⟩
      refine q_asg (v := .int (alkR (r.take (k + 1)).reverse : Int)) (ev_if (et_and (et_test (ev_op (ev_var rfl) ev_c rv_I0)) (fun hb => ?_) (b := decide ((r.take k).getLast? = some d))) (fun hb => ?_) (fun hb => ?_)) fun H4 e4 => ?_
      · have hb' := of_decide_eq_true hb
        obtain ⟨j, hj⟩ : ∃ j, k = j + 1 := ⟨k - 1, by omega⟩
        obtain ⟨y, hy, hy2⟩ := hprev j hj
        refine et_is (et_test (ev_op (ev_op (ev_var rfl) (ev_op (ev_var rfl) ev_c rv_I0) (rv_ixL hs3 (at_of (j := j) (by omega) (by rw [List.getElem?_map, hy]; rfl)))) (ev_var rfl) (rv_eq rfl))) ?_
        rw [hy2]
        by_cases e : y = d
        · rw [e]
          simp
        · simp [e]
      · rw [Bool.and_eq_true] at hb
        have h2 := of_decide_eq_true hb.2
        rw [wd hd, alk_snoc, if_pos h2]
        exact (ev_op (ev_var rfl) ev_c rv_I0)
      · have h2 : ¬ (r.take k).getLast? = some d := fun h => by
          by_cases hk0 : k = 0
          · subst hk0
            cases h
          · rw [h] at hb
            simp at hb
            omega
        rw [wd hd, alk_snoc, if_neg h2]
        exact ev_c
      · have ht : trn (r.take (k + 1)) = trn (r.take k) * ((k : Int) + 1) / (alkR (r.take (k + 1)).reverse : Int) := by
          conv => lhs; rw [wd hd]
          rw [trn_snoc, hkl, ← wd hd]
        exact s_asg (ev_op (ev_op (ev_var rfl) (ev_op (ev_var rfl) ev_c rv_I0) (rv_I (by first | exact Or.inr ⟨by omega, by omega⟩ | exact Or.inl ⟨by omega, by omega⟩))) (ev_var rfl) (rv_I (by first | exact ⟨by decide, by decide⟩ | exact ⟨by omega, by omega⟩))) fun H5 e5 => ⟨_, _, by rw [ht] <;> rfl, ((e2.trans e3).trans e4).trans e5⟩
    · rintro σ' H2 ⟨y3, y4, rfl, e2⟩
      rw [List.length_map, List.take_length]
      exact s_ret (ev_var rfl) fun H3 e3 => q H3 (e2.trans e3)
def sp_lows_of (K : PySem.W.Frag) (mg : Str → Option Value) : Sp := fun vs H Q _ => ∃ (b : Int) (pd : Addr) (ds : List Int), vs = [.int b, .ref pd] ∧ SqL K H pd (ds.map V.int) ∧ (2 ≤ b ∧ b ≤ 12) ∧ Digs b ds ∧ ds.length ≤ 4 ∧
  ∀ p as H2, H p = none → Ex H H2 → Nst H H2 p as (lowsT b ds ds.length) → Q (.ref p) H2
theorem sp_lows_n {K : PySem.W.Frag} {mg : Str → Option Value} {b : Int} {pd : Addr} {ds : List Int} {H : Hp} (hs : SqL K H pd (ds.map V.int)) (hb : 2 ≤ b ∧ b ≤ 12) (hd : Digs b ds) (hl : ds.length ≤ 4) : SpN (sp_lows_of K mg) [.int b, .ref pd] H (lowsT b ds ds.length) :=
  fun _ e _ q _ => ⟨b, pd, ds, rfl, ex_l e hs, hb, hd, hl, q⟩
def lowG (b : Int) (ds : List Int) (k : Nat) (s : List Int) : List (List Int) := (rng (lowOf s) (highOf b s (ds.take k) - ds.getD k 0 + 1)).map fun x => s ++ [x]
theorem low_take {b : Int} {ds : List Int} {h k : Nat} {s : List Int} (e : (lowsT b ds h)[k]? = some s) : ((lowsT b ds h).take (k + 1)).flatMap (lowG b ds h) = ((lowsT b ds h).take k).flatMap (lowG b ds h) ++ lowG b ds h s := by
  rw [wd e, List.flatMap_append]
  simp
theorem low_size {b : Int} (h0 : 2 ≤ b) (hb : b ≤ 12) {ds : List Int} (hd : Digs b ds) (hl : ds.length ≤ 4) {h : Nat} (hh : h + 1 ≤ ds.length) (k : Nat) : (((lowsT b ds h).take k).flatMap (lowG b ds h)).length ≤ 20736 := by
  have h1 := lowsT_len h0 hb hd hh (by omega)
  have e : lowsT b ds (h + 1) = ((lowsT b ds h).take k).flatMap (lowG b ds h) ++ ((lowsT b ds h).drop k).flatMap (lowG b ds h) := by
    rw [← List.flatMap_append, List.take_append_drop]
    rfl
  rw [e, List.length_append] at h1
  omega
theorem lowOf_bound {b : Int} (hb : 1 ≤ b) {s : List Int} (h : Digs b s) : 0 ≤ lowOf s ∧ lowOf s < b := by
  unfold lowOf
  cases e : s.getLast? with
  | none => show (0 : Int) ≤ 0 ∧ (0 : Int) < b; omega
  | some y => exact h y (List.mem_of_getLast? e)
theorem highOf_bound {b : Int} (hb : 1 ≤ b) {s ds : List Int} (h : Digs b (highs s ds)) : 0 ≤ highOf b s ds ∧ highOf b s ds < b := by
  unfold highOf
  cases e : (highs s ds).getLast? with
  | none => show 0 ≤ b - 1 ∧ b - 1 < b; omega
  | some y => exact h y (List.mem_of_getLast? e)
theorem highOf_last {b : Int} {s ds : List Int} (h : s.length = ds.length) {y d : Int} (hy : s.getLast? = some y) (hd : ds.getLast? = some d) : highOf b s ds = y + d := by
  rcases List.eq_nil_or_concat s with e | ⟨m, z, e⟩
  · rw [e] at hy
    cases hy
  · rcases List.eq_nil_or_concat ds with e2 | ⟨n, c, e2⟩
    · rw [e2] at hd
      cases hd
    · rw [List.concat_eq_append] at e e2
      subst e e2
      rw [List.getLast?_concat] at hy hd
      cases hy
      cases hd
      unfold highOf
      rw [highs_snoc (by simpa using h), List.getLast?_concat]
      rfl
theorem highOf_nil {b : Int} {ds : List Int} : highOf b [] ds = b - 1 := by
  unfold highOf highs
  rw [List.zipWith_nil_left]
  rfl
abbrev s_lows_of : Stmt := topS 29
abbrev N_lows_of : List Str := ["base", "differences", "found", "at", "far", "longer", "some", "low", "high", "figure"]
theorem sc_lows_of : FnScope N_lows_of ["base", "differences"] (defScope s_lows_of) := ⟨rfl, rfl, rfl, by decide +kernel, rfl, by decide +kernel, by decide +kernel⟩
theorem ok_lows_of {f : Addr} {fd : FuncData} (F : Fun K "lows_of" "lows_of" s_lows_of f fd) (B : Bf K mg) : FnOk P w K mg base CX0 1 f fd ["base", "differences"] (sp_lows_of K mg) := by
  refine F.ok (k := 0) sc_lows_of (fun vs H Q E h => ?_) (fun cdv A outer s H vs Q E hr h => ?_)
  · obtain ⟨b, pd, ds, rfl, _⟩ := h
    rfl
  · obtain ⟨b, pd, ds, rfl, hs, ⟨h1, h2⟩, hD, hl, q⟩ := h
    refine ⟨_, (pss_cons (ps_set (i := 2) sc_lows_of.nd rfl (Or.inl rfl) (pe_lst (pa_cons (pe_lst pa_nil) pa_nil)))
          (pss_cons (ps_for PassesOwn.never rfl (pi_enum (by rfl) B.b_enumerate (pa_cons (pv 1) pa_nil)) (pg_tup rfl (pgs_cons (pg_name (i := 3) sc_lows_of.nd rfl (Or.inl rfl)) (pgs_cons (pg_name (i := 4) sc_lows_of.nd rfl (Or.inl rfl)) pgs_nil))) (pss_cons (ps_set (i := 5) sc_lows_of.nd rfl (Or.inl rfl) (pe_lst pa_nil))
          (pss_cons (ps_for PassesOwn.never rfl (pi_list (pv 2)) (pg_name (i := 6) sc_lows_of.nd rfl (Or.inr rfl)) (pss_cons (ps_set (i := 7) sc_lows_of.nd rfl (Or.inl rfl) (pe_ifExp (pt_cmpR (op_neD hr.units) (pv 6) (pe_lst pa_nil) (nomark _)) (pe_ix ix_list (pv 6) (pe_un un_neg pe_int) (fun _ _ => rfl)) pe_int))
          (pss_cons (ps_set (i := 8) sc_lows_of.nd rfl (Or.inl rfl) (pe_ifExp (pt_cmpR (op_neD hr.units) (pv 6) (pe_lst pa_nil) (nomark _)) (pe_op op_add (pe_ix ix_list (pv 6) (pe_un un_neg pe_int) (fun _ _ => rfl)) (pe_ix ix_list (pv 1) (pe_op op_sub (pv 3) pe_int) (fun _ _ => rfl))) (pe_op op_sub (pv 0) pe_int)))
          (pss_one (ps_expr (pe_bm PySem.F.plainAttrs_list PySem.F.slot_list_extend PySem.F.type_list_extend mt_extend (pv 5) (pa_cons (pe_lc (own := [("figure", 9)]) (g := (gName 9)) (by rfl) sc_lows_of.nd (pi_range2 (by rfl) B.b_range (pa_cons (pv 7) (pa_cons (pe_op op_add (pe_op op_sub (pv 8) (pv 4)) pe_int) pa_nil))) (blkOk_by (own := [("figure", 9)]) (N := N_lows_of) (sc := defScope s_lows_of) (by decide +kernel)) (fun _ _ _ _ _ => (pg_name (i := 9) sc_lows_of.nd rfl (Or.inl rfl))) (fun _ _ _ _ _ => pts_nil) (fun _ _ _ _ _ => (pe_op op_cat (pv 6) (pe_lst (pa_cons (pv 9) pa_nil))))) pa_nil)))))))
          (pss_one (ps_set (i := 2) sc_lows_of.nd rfl (Or.inl rfl) (pv 5))))))
          (pss_one (ps_ret (pv 2))))), ?_⟩
    refine q_asgN en_one fun p as H1 np e1 hN => ?_
    refine q_forEnum (ea_cons (ev_var rfl) ea_nil) (ex_l e1 hs) (fun i σ' H' => ∃ p as y3 y4 y5 y6 y7 y8 y9, σ' = [some (.int b), some (.ref pd), some (.ref p), y3, y4, y5, y6, y7, y8, y9] ∧ Ex H H' ∧ Nst H H' p as (lowsT b ds i) ∧ H p = none)
      (fun H2 e2 => ⟨p, as, _, _, _, _, _, _, _, rfl, e1.trans e2, hN.ex e2, np⟩) (fun i σ' H' _ ⟨_, _, _, _, _, _, _, _, _, _, e, _⟩ => ex_l e hs) ?_ ?_
    · rintro i x σ' H1 H2 hi ⟨p, as, y3, y4, y5, y6, y7, y8, y9, rfl, e1, hN1, np⟩ e12
      obtain ⟨d, hdi, rfl⟩ := item_of hi
      have hlt := (List.getElem?_eq_some_iff.mp hdi).1
      have hdd := hD d (List.mem_of_getElem? hdi)
      have hgd : ds.getD i 0 = d := by rw [List.getD_eq_getElem?_getD, hdi] <;> rfl
      have e2 := e1.trans e12
      have hN := hN1.ex e12
      refine q_asgL (el_lst ea_nil (by decide)) fun pl H3 npl e3 hpl => ?_
      refine q_forLn (ev_var rfl) (sq_of (hN.ex e3).top) (fun k σ' H' => ∃ y6 y7 y8, σ' = [some (.int b), some (.ref pd), some (.ref p), some (.int (i : Int)), some (.int d), some (.ref pl), y6, y7, y8, y9] ∧ Ex H2 H' ∧ ∃ bs, Nst H2 H' pl bs (((lowsT b ds i).take k).flatMap (lowG b ds i)))
        (fun H4 e4 => ⟨_, _, _, rfl, e3.trans e4, [], e4 pl _ hpl, by simp, (fun _ h => nomatch h), rfl⟩) (fun k σ' H' _ ⟨_, _, _, _, e, _⟩ => sq_of (hN.ex e).top) ?_ ?_
      · rintro k x σ' H4 hk ⟨y6, y7, y8, rfl, e4, bs, hB⟩
        rw [List.getElem?_map] at hk
        cases ea : as[k]? with
        | none =>
          rw [ea] at hk
          cases hk
        | some a =>
          rw [ea] at hk
          have ex : V.ref a = x := Option.some.inj hk
          subst ex
          obtain ⟨s, es, ha⟩ := (hN.ex e4).get ea
          have hL := (lowsT_mem hD (by omega)).mp (List.mem_of_getElem? es)
          have hsl : s.length = i := by
            have := hL.len
            rw [List.length_take] at this
            omega
          have hlo := lowOf_bound (b := b) (by omega) hL.lo
          have hhi := highOf_bound (b := b) (by omega) hL.hi
          have hs4 := ex_l (e2.trans e4) hs
          refine q_asg (v := .int (lowOf s)) (ev_if (et_test (ev_neNil (ev_var rfl) (sq_of ha))) (fun hb => ?_) (fun hb => ?_)) fun H5 e5 => ?_
          · obtain ⟨y, hy⟩ := getLast_ne (s := s) (by simpa using hb)
            have : lowOf s = y := by unfold lowOf; rw [hy]; rfl
            rw [this]
            exact ev_op (ev_var rfl) (ev_un ev_c ru_neg) (rv_ixL (sq_of ha) (last_at hy))
          · have : s = [] := by simpa using hb
            subst this
            exact ev_c
          have ha5 := e5 a _ ha
          refine q_asg (v := .int (highOf b s (ds.take i))) (ev_if (et_test (ev_neNil (ev_var rfl) (sq_of ha5))) (fun hb => ?_) (fun hb => ?_)) fun H6 e6 => ?_
          · have hne : s ≠ [] := by simpa using hb
            obtain ⟨y, hy⟩ := getLast_ne hne
            have hi0 : i ≠ 0 := fun h => hne (List.length_eq_zero_iff.mp (by omega))
            obtain ⟨j, hj⟩ : ∃ j, i = j + 1 := ⟨i - 1, by omega⟩
            obtain ⟨dj, hdj⟩ : ∃ dj, ds[j]? = some dj := ⟨ds[j]'(by omega), List.getElem?_eq_getElem _⟩
            have hdl : (ds.take i).getLast? = some dj := by
              rw [hj, wd hdj, List.getLast?_concat]
            rw [highOf_last hL.len hy hdl]
            exact ev_op (ev_op (ev_var rfl) (ev_un ev_c ru_neg) (rv_ixL (sq_of ha5) (last_at hy))) (ev_op (ev_var rfl) (ev_op (ev_var rfl) ev_c rv_I0) (rv_ixL (ex_l e5 hs4) (at_of (j := j) (by omega) (by rw [List.getElem?_map, hdj]; rfl)))) rv_I0
          · have : s = [] := by simpa using hb
            subst this
            rw [highOf_nil]
            exact (ev_op (ev_var rfl) ev_c rv_I0)
          have ha6 := e6 a _ ha5
          have hG : lowG b ds i s = (rng (lowOf s) (highOf b s (ds.take i) - d + 1)).map fun x => s ++ [x] := by
            unfold lowG
            rw [hgd]
          refine s_extN ((hB.ex e5).ex e6).top (ev_var rfl) (en_lcR2 (fun x => s ++ [x]) (ea_cons (ev_var rfl) (ea_cons (ev_op (ev_op (ev_var rfl) (ev_var rfl) rv_I0) ev_c rv_I0) ea_nil)) ⟨by omega, by omega, by omega, by omega⟩ (fun _ => rfl) fun far H7 e7 hf1 hf2 => el_is (el_catN (ev_var rfl) (e7 a _ ha6) (el_lst (ea_cons (ev_var rfl) ea_nil) (Nat.le_of_ble_eq_true rfl)) ?_) (by rw [List.map_append] <;> rfl)) ?_ fun p7 as7 H7 np7 e7 hN7 => ?_
          · rw [List.length_map, hsl]
            show i + 1 ≤ 100000
            omega
          · have g := low_size h1 h2 hD hl (h := i) (by omega) (k + 1)
            rw [low_take es, List.length_append, hG] at g
            rw [List.length_map, hB.len]
            exact Nat.le_trans g (by decide)
          · refine ⟨_, _, _, rfl, Ex.mut (((e4.trans e5).trans e6).trans e7) npl, bs ++ as7, ?_⟩
            rw [low_take es, hG]
            exact Nst.extend ((hB.ex e5).ex e6) ((e4.trans e5).trans e6) e7 hN7
      · rintro σ' H4 ⟨y6, y7, y8, rfl, e4, bs, hB⟩
        rw [List.length_map, hN.len, List.take_length] at hB
        exact s_asg (ev_var rfl) fun H5 e5 => ⟨pl, bs, _, _, _, _, _, _, _, rfl, (e2.trans e4).trans e5, (hB.ex e5).back e2, fresh_back e2 npl⟩
    · rintro σ' H2 ⟨p, as, y3, y4, y5, y6, y7, y8, y9, rfl, e2, hN, np⟩
      rw [List.length_map] at hN
      exact s_ret (ev_var rfl) fun H3 e3 => q p as H3 np (e2.trans e3) (hN.ex e3)
def sp_many_with (K : PySem.W.Frag) (mg : Str → Option Value) : Sp := fun vs H Q _ => ∃ (b l : Int) (pd : Addr) (ds : List Int), vs = [.int b, .int l, .ref pd] ∧ SqL K H pd (ds.map V.int) ∧ (2 ≤ b ∧ b ≤ 12 ∧ 1 ≤ l ∧ l ≤ 8) ∧ Digs b ds ∧ ds.length = l.toNat / 2 ∧ RetV (.int (manyM b l.toNat ds)) H Q
theorem sp_many_v {K : PySem.W.Frag} {mg : Str → Option Value} {b l : Int} {pd : Addr} {ds : List Int} {H : Hp} (hs : SqL K H pd (ds.map V.int)) (h : 2 ≤ b ∧ b ≤ 12 ∧ 1 ≤ l ∧ l ≤ 8) (hd : Digs b ds) (hl : ds.length = l.toNat / 2) : SpV (sp_many_with K mg) [.int b, .int l, .ref pd] H (.int (manyM b l.toNat ds)) :=
  fun _ e _ q _ => ⟨b, l, pd, ds, rfl, ex_l e hs, h, hd, hl, q⟩
def manyS (b : Int) (L : Nat) (ds : List Int) (k : Nat) : Int := (((lowsT b ds ds.length).take k).map fun s => ((rowsOf b L ds s).map trn).sum).sum
theorem manyS_snoc {b : Int} {L : Nat} {ds : List Int} {k : Nat} {s : List Int} (e : (lowsT b ds ds.length)[k]? = some s) : manyS b L ds (k + 1) = manyS b L ds k + ((rowsOf b L ds s).map trn).sum := by
  unfold manyS
  rw [wd e, List.map_append, List.sum_append]
  simp
theorem highs_at {s ds : List Int} {k : Nat} {x d : Int} (h1 : s[k]? = some x) (h2 : ds[k]? = some d) : (highs s ds)[k]? = some (x + d) := by
  unfold highs
  rw [List.getElem?_zipWith, h1, h2]
abbrev s_many_with : Stmt := topS 30
abbrev N_many_with : List Str := ["base", "length", "differences", "found", "lows", "low", "highs", "high", "far", "figure"]
theorem sc_many_with : FnScope N_many_with ["base", "length", "differences"] (defScope s_many_with) := ⟨rfl, rfl, rfl, by decide +kernel, rfl, by decide +kernel, by decide +kernel⟩
theorem ok_many_with {f : Addr} {fd : FuncData} (F : Fun K "many_with" "many_with" s_many_with f fd) (B : Bf K mg) (c_lows_of : Fn P w K mg base 1 "lows_of" ["base", "differences"] (sp_lows_of K mg)) (c_turns_of : Fn P w K mg base 1 "turns_of" ["figures"] (sp_turns_of K mg)) : FnOk P w K mg base CX0 2 f fd ["base", "length", "differences"] (sp_many_with K mg) := by
  refine F.ok (k := 1) sc_many_with (fun vs H Q E h => ?_) (fun cdv A outer s H vs Q E hr h => ?_)
  · obtain ⟨b, l, pd, ds, rfl, _⟩ := h
    rfl
  · obtain ⟨b, l, pd, ds, rfl, hs, hbl, hD, hl, q⟩ := h
    obtain ⟨h1, h2, h3, h4⟩ := hbl
    refine ⟨_, (pss_cons (ps_set (i := 3) sc_many_with.nd rfl (Or.inl rfl) pe_int)
          (pss_cons (ps_for PassesOwn.never rfl (pi_list (pe_fn c_lows_of (hr.mono (by decide)) (by rfl) (pa_cons (pv 0) (pa_cons (pv 2) pa_nil)))) (pg_name (i := 4) sc_many_with.nd rfl (Or.inr rfl)) (pss_cons (ps_set (i := 6) sc_many_with.nd rfl (Or.inr rfl) (pe_lc (own := [("low", 5), ("far", 8)]) (g := (gTup K 2 (gCons (gName 5) (gCons (gName 8) gNil)))) (by rfl) sc_many_with.nd (pi_zip (by rfl) B.b_zip (pa_cons (pv 4) (pa_cons (pv 2) pa_nil))) (blkOk_by (own := [("low", 5), ("far", 8)]) (N := N_many_with) (sc := defScope s_many_with) (by decide +kernel)) (fun _ _ _ _ _ => (pg_tup rfl (pgs_cons (pg_name (i := 5) sc_many_with.nd rfl (Or.inl rfl)) (pgs_cons (pg_name (i := 8) sc_many_with.nd rfl (Or.inl rfl)) pgs_nil)))) (fun _ _ _ _ _ => pts_nil) (fun _ _ _ _ _ => (pe_op op_add (pv 5) (pv 8)))))
          (pss_one (ps_if (pt_cmpR op_eq (pe_op op_mod (pv 1) pe_int) pe_int (nomark _)) (pss_one (ps_set (i := 3) sc_many_with.nd rfl (Or.inl rfl) (pe_op op_add (pv 3) (pe_fn c_turns_of (hr.mono (by decide)) (by rfl) (pa_cons (pe_op op_cat (pv 4) (pe_revL (pv 6))) pa_nil))))) (pss_cons (ps_set (i := 5) sc_many_with.nd rfl (Or.inl rfl) (pe_ifExp (pt_cmpR (op_neD hr.units) (pv 4) (pe_lst pa_nil) (nomark _)) (pe_ix ix_list (pv 4) (pe_un un_neg pe_int) (fun _ _ => rfl)) pe_int))
          (pss_cons (ps_set (i := 7) sc_many_with.nd rfl (Or.inl rfl) (pe_ifExp (pt_cmpR (op_neD hr.units) (pv 6) (pe_lst pa_nil) (nomark _)) (pe_ix ix_list (pv 6) (pe_un un_neg pe_int) (fun _ _ => rfl)) (pe_op op_sub (pv 0) pe_int)))
          (pss_one (ps_set (i := 3) sc_many_with.nd rfl (Or.inl rfl) (pe_op op_add (pv 3) (pe_callB (cr_sum rfl) (by rfl) B.b_sum (by decide +kernel) (pa_cons (pe_lc (own := [("figure", 9)]) (g := (gName 9)) (by rfl) sc_many_with.nd (pi_range2 (by rfl) B.b_range (pa_cons (pv 5) (pa_cons (pe_op op_add (pv 7) pe_int) pa_nil))) (blkOk_by (own := [("figure", 9)]) (N := N_many_with) (sc := defScope s_many_with) (by decide +kernel)) (fun _ _ _ _ _ => (pg_name (i := 9) sc_many_with.nd rfl (Or.inl rfl))) (fun _ _ _ _ _ => pts_nil) (fun _ _ _ _ _ => (pe_fn c_turns_of (hr.mono (by decide)) (by rfl) (pa_cons (pe_op op_cat (pe_op op_cat (pv 4) (pe_lst (pa_cons (pv 9) pa_nil))) (pe_revLK (K := K) rfl (pv 6))) pa_nil)))) pa_nil)))))))))))
          (pss_one (ps_ret (pv 3))))), ?_⟩
    refine q_asg ev_c fun H1 e1 => ?_
    refine q_forN (en_call (ea_cons (ev_var rfl) (ea_cons (ev_var rfl) ea_nil)) (sp_lows_n (ex_l e1 hs) ⟨h1, h2⟩ hD (by omega))) fun pf as H3 npf e3 hN => ?_
    refine q_forLn ev_c (sq_of hN.top) (fun k σ' H' => ∃ y4 y5 y6 y7 y8 y9, σ' = [some (.int b), some (.int l), some (.ref pd), some (.int (manyS b l.toNat ds k)), y4, y5, y6, y7, y8, y9] ∧ Ex H3 H')
      (fun H4 e4 => ⟨_, _, _, _, _, _, rfl, e4⟩) (fun k σ' H' _ ⟨_, _, _, _, _, _, _, e⟩ => sq_of (hN.ex e).top) ?_ ?_
    · rintro k x σ' H4 hk ⟨y4, y5, y6, y7, y8, y9, rfl, e4⟩
      rw [List.getElem?_map] at hk
      cases ea : as[k]? with
      | none =>
        rw [ea] at hk
        cases hk
      | some a =>
        rw [ea] at hk
        have ex : V.ref a = x := Option.some.inj hk
        subst ex
        obtain ⟨s, es, ha⟩ := (hN.ex e4).get ea
        have hL := (lowsT_mem hD (Nat.le_refl _)).mp (List.mem_of_getElem? es)
        rw [List.take_length] at hL
        have hsl := hL.len
        have hhl := highs_len hsl
        have hlo := lowOf_bound (b := b) (by omega) hL.lo
        have hhi := highOf_bound (b := b) (by omega) hL.hi
        have hs4 := ex_l ((e1.trans e3).trans e4) hs
        refine q_asgL (el_zip2 (zs := (highs s ds).map V.int) (e2_vv (ev_var rfl) (ev_var rfl) (sq_of ha) hs4) (by rw [List.length_map, List.length_map, List.length_map, hhl]; omega) (by rw [List.length_map, hhl]; omega) (fun _ _ => rfl) fun k2 x2 y2 z2 hx hy hz H5 e5 => ?_) fun ph H5 nph e5 hph => ?_
        · obtain ⟨u, hu, rfl⟩ := item_of hx
          obtain ⟨w2, hw, rfl⟩ := item_of hy
          rw [List.getElem?_map, highs_at hu hw] at hz
          have : V.int (u + w2) = z2 := Option.some.inj hz
          subst this
          exact (ev_op (ev_var rfl) (ev_var rfl) rv_I0)
        have ha5 := e5 a _ ha
        refine s_if (et_test (ev_op (ev_op (ev_var rfl) ev_c (rv_I (by first | decide | omega))) ev_c (rv_eq rfl))) (fun hb H6 e6 => ?_) (fun hb H6 e6 => ?_)
        · have hb' : l % 2 = 0 := by simpa using hb
          have hr : ((rowsOf b l.toNat ds s).map trn).sum = trn (s ++ (highs s ds).reverse) := by
            unfold rowsOf
            rw [if_pos (by omega)]
            simp
          have ha6 := e6 a _ ha5
          have hph6 := e6 ph _ hph
          refine s_asg (v := .int (manyS b l.toNat ds (k + 1))) (ev_is (ev_op (ev_var rfl) (ev_call1L (z := .int (trn (s ++ (highs s ds).reverse))) (el_catN (ev_var rfl) ha6 (el_rev (ev_var rfl) (sq_of hph6)) ?_) fun p7 H7 e7 hp7 => sp_turns_v (by rw [List.map_append, List.map_reverse]; exact sq_of hp7) ?_) rv_I0) (by rw [manyS_snoc es, hr])) fun H7 e7 => ⟨_, _, _, _, _, _, rfl, ((e4.trans e5).trans e6).trans e7⟩
          · simp [hhl]
            omega
          · simp [hhl]
            omega
        · have hb' : ¬ l % 2 = 0 := by simpa using hb
          have ha6 := e6 a _ ha5
          have hph6 := e6 ph _ hph
          refine q_asg (v := .int (lowOf s)) (ev_if (et_test (ev_neNil (ev_var rfl) (sq_of ha6))) (fun hb => ?_) (fun hb => ?_)) fun H7 e7 => ?_
          · obtain ⟨y, hy⟩ := getLast_ne (s := s) (by simpa using hb)
            have : lowOf s = y := by unfold lowOf; rw [hy]; rfl
            rw [this]
            exact ev_op (ev_var rfl) (ev_un ev_c ru_neg) (rv_ixL (sq_of ha6) (last_at hy))
          · have : s = [] := by simpa using hb
            subst this
            exact ev_c
          have hph7 := e7 ph _ hph6
          refine q_asg (v := .int (highOf b s ds)) (ev_if (et_test (ev_neNil (ev_var rfl) (sq_of hph7))) (fun hb => ?_) (fun hb => ?_)) fun H8 e8 => ?_
          · obtain ⟨y, hy⟩ := getLast_ne (s := highs s ds) (by simpa using hb)
            have : highOf b s ds = y := by unfold highOf; rw [hy]; rfl
            rw [this]
            exact ev_op (ev_var rfl) (ev_un ev_c ru_neg) (rv_ixL (sq_of hph7) (last_at hy))
          · have hnil : highs s ds = [] := by simpa using hb
            have : highOf b s ds = b - 1 := by unfold highOf; rw [hnil]; rfl
            rw [this]
            exact (ev_op (ev_var rfl) ev_c rv_I0)
          have ha8 := e8 a _ (e7 a _ ha6)
          have hph8 := e8 ph _ hph7
          have hr : ((rowsOf b l.toNat ds s).map trn).sum = ((rng (lowOf s) (highOf b s ds + 1)).map fun x => trn (s ++ [x] ++ (highs s ds).reverse)).sum := by
            unfold rowsOf
            rw [if_neg (by omega), List.map_map]
            rfl
          refine s_asg (v := .int (manyS b l.toNat ds (k + 1))) (ev_is (ev_op (ev_var rfl) (ev_sumN (ns := (rng (lowOf s) (highOf b s ds + 1)).map fun x => trn (s ++ [x] ++ (highs s ds).reverse)) (el_is (el_rng2 (fun x => .int (trn (s ++ [x] ++ (highs s ds).reverse))) (ea_cons (ev_var rfl) (ea_cons (ev_op (ev_var rfl) ev_c rv_I0) ea_nil)) ⟨by omega, by omega, by omega, by omega⟩ (fun _ => rfl) fun x H9 e9 hx1 hx2 => ?_) (by rw [List.map_map] <;> rfl))) rv_I0) (by rw [manyS_snoc es, hr])) fun H9 e9 => ⟨_, _, _, _, _, _, rfl, ((((e4.trans e5).trans e6).trans e7).trans e8).trans e9⟩
          refine ev_call1L (el_catNN (el_catN (ev_var rfl) (e9 a _ ha8) (el_lst (ea_cons (ev_var rfl) ea_nil) (Nat.le_of_ble_eq_true rfl)) ?_) (el_rev (ev_var rfl) (sq_of (e9 ph _ hph8))) ?_) fun p10 H10 e10 hp10 => sp_turns_v (by rw [List.map_append, List.map_append, List.map_reverse]; exact sq_of hp10) ?_
          · simp
            omega
          · simp [hhl]
            omega
          · simp [hhl]
            omega
    · rintro σ' H4 ⟨y4, y5, y6, y7, y8, y9, rfl, e4⟩
      have hM : manyS b l.toNat ds (as.map V.ref).length = manyM b l.toNat ds := by
        rw [List.length_map, hN.len]
        unfold manyS
        rw [List.take_length]
        rfl
      rw [hM]
      exact s_ret (ev_var rfl) fun H5 e5 => q H5 (((e1.trans e3).trans e4).trans e5)
def sp_came_many (K : PySem.W.Frag) (mg : Str → Option Value) : Sp := sp3 Dom (fun b l n => .int (cmM b l.toNat n))
abbrev s_came_many : Stmt := topS 31
abbrev N_came_many : List Str := ["base", "length", "number", "found"]
theorem sc_came_many : FnScope N_came_many ["base", "length", "number"] (defScope s_came_many) := ⟨rfl, rfl, rfl, by decide +kernel, rfl, by decide +kernel, by decide +kernel⟩
theorem ok_came_many {f : Addr} {fd : FuncData} (F : Fun K "came_many" "came_many" s_came_many f fd) (B : Bf K mg) (c_check_number : Fn P w K mg base 3 "check_number" ["base", "length", "number"] (sp_check_number K mg)) (c_differences_to : Fn P w K mg base 2 "differences_to" ["base", "length", "number"] (sp_differences_to K mg)) (c_many_with : Fn P w K mg base 2 "many_with" ["base", "length", "differences"] (sp_many_with K mg)) : FnOk P w K mg base CX0 4 f fd ["base", "length", "number"] (sp_came_many K mg) := by
  refine F.ok (k := 3) sc_came_many (fun vs H Q E h => ?_) (fun cdv A outer s H vs Q E hr h => ?_)
  · obtain ⟨a, b, c, rfl, _⟩ := h
    rfl
  · obtain ⟨b, l, n, rfl, hd, q⟩ := h
    have q : RetV (.int (cmM b l.toNat n)) H Q := q
    have hbl := hd.1
    have h0 := hd.2.1
    refine ⟨_, (pss_cons (ps_expr (pe_fn c_check_number (hr.mono (by decide)) (by rfl) (pa_cons (pv 0) (pa_cons (pv 1) (pa_cons (pv 2) pa_nil)))))
          (pss_cons (ps_set (i := 3) sc_came_many.nd rfl (Or.inl rfl) (pe_fn c_differences_to (hr.mono (by decide)) (by rfl) (pa_cons (pv 0) (pa_cons (pv 1) (pa_cons (pv 2) pa_nil)))))
          (pss_one (ps_ret (pe_ifExp (pt_cmpR op_isN (pv 3) pe_non (nomark _)) pe_int (pe_fn c_many_with (hr.mono (by decide)) (by rfl) (pa_cons (pv 0) (pa_cons (pv 1) (pa_cons (pv 3) pa_nil))))))))), ?_⟩
    refine q_drop (ev_call (ea_cons (ev_var rfl) (ea_cons (ev_var rfl) (ea_cons (ev_var rfl) ea_nil))) (sp3_v (by first | assumption | omega))) fun H1 e1 => ?_
    cases hdb : difB b l.toNat n with
    | true =>
      have ev : cmM b l.toNat n = manyM b l.toNat (dif b l.toNat n) := if_pos hdb
      rw [ev] at q
      obtain ⟨d1, d2, d3⟩ := dif_ok hbl.1 h0 hdb
      refine q_asgL (el_call (ea_cons (ev_var rfl) (ea_cons (ev_var rfl) (ea_cons (ev_var rfl) ea_nil))) (sp_dif_l hbl h0 hdb)) fun p H2 np e2 hp => ?_
      exact s_ret (ev_if (et_is (b := false) (et_test (ev_op (ev_var rfl) ev_c rv_isN)) (by simp)) (fun z => nomatch z) (fun _ => ev_call (ea_cons (ev_var rfl) (ea_cons (ev_var rfl) (ea_cons (ev_var rfl) ea_nil))) (sp_many_v (sq_of hp) hbl d2.2 d1))) fun H3 e3 => q H3 ((e1.trans e2).trans e3)
    | false =>
      have ev : cmM b l.toNat n = 0 := if_neg (by rw [hdb]; decide)
      rw [ev] at q
      refine q_asg (ev_call (ea_cons (ev_var rfl) (ea_cons (ev_var rfl) (ea_cons (ev_var rfl) ea_nil))) (sp_dif_v hbl h0 hdb)) fun H2 e2 => ?_
      exact s_ret (ev_if (et_is (b := true) (et_test (ev_op (ev_var rfl) ev_c rv_isN)) (by simp)) (fun _ => ev_c) (fun z => nomatch z)) fun H3 e3 => q H3 ((e1.trans e2).trans e3)
def sp_least_first (K : PySem.W.Frag) (mg : Str → Option Value) : Sp := fun vs H Q _ => ∃ (p : Addr) (ns : List Int), vs = [.ref p] ∧ SqL K H p (ns.map V.int) ∧ ns.length ≤ 50000 ∧ ns[0]? = some (lmin ns) ∧ RetL (ns.map V.int) H Q
theorem sp_least_l {K : PySem.W.Frag} {mg : Str → Option Value} {p : Addr} {ns : List Int} {H : Hp} (hs : SqL K H p (ns.map V.int)) (hl : ns.length ≤ 50000) (h0 : ns[0]? = some (lmin ns)) : SpL (sp_least_first K mg) [.ref p] H (ns.map V.int) :=
  fun _ e _ q _ => ⟨p, ns, rfl, ex_l e hs, hl, h0, q⟩
abbrev s_least_first : Stmt := topS 33
abbrev N_least_first : List Str := ["ring", "at"]
theorem sc_least_first : FnScope N_least_first ["ring"] (defScope s_least_first) := ⟨rfl, rfl, rfl, by decide +kernel, rfl, by decide +kernel, by decide +kernel⟩
theorem ok_least_first {f : Addr} {fd : FuncData} (F : Fun K "least_first" "least_first" s_least_first f fd) (B : Bf K mg) : FnOk P w K mg base CX0 1 f fd ["ring"] (sp_least_first K mg) := by
  refine F.ok (k := 0) sc_least_first (fun vs H Q E h => ?_) (fun cdv A outer s H vs Q E hr h => ?_)
  · obtain ⟨p, ns, rfl, _⟩ := h
    rfl
  · obtain ⟨p, ns, rfl, hs, hl, h0, q⟩ := h
    have hn := (List.getElem?_eq_some_iff.mp h0).1
    refine ⟨_, (pss_cons (ps_set (i := 1) sc_least_first.nd rfl (Or.inl rfl) (pe_bm PySem.F.plainAttrs_list PySem.F.slot_list_index PySem.F.type_list_index mt_index (pv 0) (pa_cons (pe_callB (cr_min rfl) (by rfl) B.b_min (by decide +kernel) (pa_cons (pv 0) pa_nil)) pa_nil)))
          (pss_one (ps_ret (pe_op op_cat (pe_slice sl_list (pv 0) (po_some (pv 1)) po_none) (pe_slice sl_list (pv 0) po_none (po_some (pv 1))))))), ?_⟩
    refine q_asg (ev_index (j := 0) (ev_var rfl) hs (ev_min (ev_var rfl) hs hn) h0 (fun i k hi => absurd hi (Nat.not_lt_zero _))) fun H1 e1 => ?_
    refine s_retL (el_is (el_catNN (el_is (el_sl (ev_var rfl) (eo_some (ev_var rfl)) eo_none (ex_l e1 hs)) (cut_drop (Nat.zero_le _))) (el_is (el_sl (ev_var rfl) eo_none (eo_some (ev_var rfl)) (ex_l e1 hs)) (cut_take (Nat.zero_le _))) ?_) ?_) fun p2 H2 np e2 h2 => q p2 H2 (fresh_back e1 np) (e1.trans e2) h2
    · simp
      omega
    · simp
def sp_round_of (K : PySem.W.Frag) (mg : Str → Option Value) : Sp := fun vs H Q _ => ∃ (b l n : Int), vs = [.int b, .int l, .int n] ∧ Dom b l n ∧
  ∀ (t : Addr) (H2 : Hp) (m c : Nat), Course (stepM b l.toNat) n m c → m ≤ 20737 → H t = none → Ex H H2 → H2 t = some (.tup [.int (c : Int), .int ((m : Int) - c), .int (lmin (ring (stepM b l.toNat) n m c))]) → Q (.ref t) H2
theorem sp_round_p {K : PySem.W.Frag} {mg : Str → Option Value} {σ : L2.St} {E : XK} {ta : TA} {b l n : Int} {H : Hp} (h : Dom b l n) (ha : EvA ta σ H [.int b, .int l, .int n]) :
    EvP (tCall (sp_round_of K mg) [] E ta) σ H fun v H2 => ∃ (t : Addr) (m c : Nat), v = .ref t ∧ H t = none ∧ Course (stepM b l.toNat) n m c ∧ m ≤ 20737 ∧ H2 t = some (.tup [.int (c : Int), .int ((m : Int) - c), .int (lmin (ring (stepM b l.toNat) n m c))]) :=
  fun H1 e Q q => ha H1 e _ fun H2 e2 => ⟨b, l, n, rfl, h, fun t H3 m c hC hm nt e3 h1 => q _ H3 (e2.trans e3) ⟨t, m, c, rfl, fresh_back (e.trans e2) nt, hC, hm, h1⟩⟩
abbrev s_round_of : Stmt := topS 34
abbrev N_round_of : List Str := ["base", "length", "number", "found", "begin"]
theorem sc_round_of : FnScope N_round_of ["base", "length", "number"] (defScope s_round_of) := ⟨rfl, rfl, rfl, by decide +kernel, rfl, by decide +kernel, by decide +kernel⟩
theorem ok_round_of {f : Addr} {fd : FuncData} (F : Fun K "round_of" "round_of" s_round_of f fd) (B : Bf K mg) (c_check_number : Fn P w K mg base 3 "check_number" ["base", "length", "number"] (sp_check_number K mg)) (c_course_of : Fn P w K mg base 3 "course_of" ["base", "length", "number"] (sp_course_of K mg)) : FnOk P w K mg base CX0 4 f fd ["base", "length", "number"] (sp_round_of K mg) := by
  refine F.ok (k := 3) sc_round_of (fun vs H Q E h => ?_) (fun cdv A outer s H vs Q E hr h => ?_)
  · obtain ⟨b, l, n, rfl, _⟩ := h
    rfl
  · obtain ⟨b, l, n, rfl, hd, q⟩ := h
    have hd0 := hd.1
    refine ⟨_, (pss_cons (ps_expr (pe_fn c_check_number (hr.mono (by decide)) (by rfl) (pa_cons (pv 0) (pa_cons (pv 1) (pa_cons (pv 2) pa_nil)))))
          (pss_cons (ps_asg (pe_fn c_course_of (hr.mono (by decide)) (by rfl) (pa_cons (pv 0) (pa_cons (pv 1) (pa_cons (pv 2) pa_nil)))) (pg_tup rfl (pgs_cons (pg_name (i := 3) sc_round_of.nd rfl (Or.inl rfl)) (pgs_cons (pg_name (i := 4) sc_round_of.nd rfl (Or.inl rfl)) pgs_nil))))
          (pss_one (ps_ret (pe_tup (pa_cons (pv 4) (pa_cons (pe_op op_sub (pe_callB call_len_seq (by rfl) B.b_len PySem.boot_len (pa_cons (pv 3) pa_nil)) (pv 4)) (pa_cons (pe_callB (cr_min rfl) (by rfl) B.b_min (by decide +kernel) (pa_cons (pe_slice sl_list (pv 3) (po_some (pv 4)) po_none) pa_nil)) pa_nil)))))))), ?_⟩
    refine q_drop (ev_call (ea_cons (ev_var rfl) (ea_cons (ev_var rfl) (ea_cons (ev_var rfl) ea_nil))) (sp3_v (by first | assumption | omega))) fun H1 e1 => ?_
    refine q_asg2 (sp_course_p hd0 (ea_cons (ev_var rfl) (ea_cons (ev_var rfl) (ea_cons (ev_var rfl) ea_nil)))) fun x y H2 e2 hR => ?_
    obtain ⟨a, m, c, rfl, rfl, _, hC, hm, ha⟩ := hR
    have hlt := hC.lt
    have hlen : ((orb (stepM b l.toNat) n m).map V.int).length = m := by rw [List.length_map, orb_len]
    refine s_retU (eu_tup (ea_cons (ev_var rfl) (ea_cons (ev_op (ev_len (ev_var rfl) (sq_of ha)) (ev_var rfl) rv_I0) (ea_cons (ev_minN (el_is (el_sl (ev_var rfl) (eo_some (ev_var rfl)) eo_none (sq_of ha)) (ring_cut (by omega))) (ring_pos hlt)) ea_nil))) (Nat.le_of_ble_eq_true rfl)) fun t H3 nt e3 ht => ?_
    rw [hlen] at ht
    exact q t H3 m c hC hm (fresh_back (e1.trans e2) nt) ((e1.trans e2).trans e3) ht
def sp_led_to (K : PySem.W.Frag) (mg : Str → Option Value) : Sp := fun vs H Q _ => ∃ (b l n : Int) (d : Addr) (kvs : List (Key × V)), vs = [.int b, .int l, .int n, .ref d] ∧ (2 ≤ b ∧ b ≤ 12 ∧ 1 ≤ l ∧ l ≤ 8) ∧ n ∈ imgs b l.toNat ∧ H d = some (.dK kvs) ∧ Snd (stepM b l.toNat) (imgs b l.toNat) kvs ∧
  ∀ (r : Int) (kvs' : List (Key × V)) (H2 : Hp), IsLst (stepM b l.toNat) n r → ExB d H H2 → H2 d = some (.dK kvs') → Snd (stepM b l.toNat) (imgs b l.toNat) kvs' → Q (.int r) H2
theorem orb_first {f : Int → Int} {n : Int} {m c : Nat} (h : Apart f n m) (hc : c < m) (i : Nat) (k : Int) (hi : i < c) (e : (orb f n m)[i]? = some k) : k ≠ it f c n := fun q => by
  rw [orb_get (by omega)] at e
  have e2 : it f i n = k := Option.some.inj e
  have := h i c (by omega) hc (e2.trans q)
  omega
abbrev s_led_to : Stmt := topS 35
abbrev N_led_to : List Str := ["base", "length", "number", "known", "way", "least", "one"]
theorem sc_led_to : FnScope N_led_to ["base", "length", "number", "known"] (defScope s_led_to) := ⟨rfl, rfl, rfl, by decide +kernel, rfl, by decide +kernel, by decide +kernel⟩
theorem ok_led_to {f : Addr} {fd : FuncData} (F : Fun K "led_to" "led_to" s_led_to f fd) (B : Bf K mg) (c_step_of : Fn P w K mg base 2 "step_of" ["base", "length", "number"] (sp_step_of K mg)) : FnOk P w K mg base CX0 3 f fd ["base", "length", "number", "known"] (sp_led_to K mg) := by
  refine F.ok (k := 2) sc_led_to (fun vs H Q E h => ?_) (fun cdv A outer s H vs Q E hr h => ?_)
  · obtain ⟨b, l, n, d, kvs, rfl, _⟩ := h
    rfl
  · obtain ⟨b, l, n, d, kvs, rfl, hbl, hn, hd, hS, q⟩ := h
    have hbl' := hbl
    obtain ⟨h1, h2, h3, h4⟩ := hbl
    refine ⟨_, (pss_cons (ps_set (i := 4) sc_led_to.nd rfl (Or.inl rfl) (pe_lst pa_nil))
          (pss_cons (ps_while PassesOwn.never (PW.pt (pw_and (pt_cmp (pc_dnotin (hu_of hr) (pv 2) (pv 3))) (pw_and1 (pt_cmpR op_notIn_seq (pv 2) (pv 4) (by rfl))))) (pss_cons (ps_expr (pe_bm PySem.F.plainAttrs_list PySem.F.slot_list_append PySem.F.type_list_append mt_append (pv 4) (pa_cons (pv 2) pa_nil)))
          (pss_one (ps_set (i := 2) sc_led_to.nd rfl (Or.inl rfl) (pe_fn c_step_of (hr.mono (by decide)) (by rfl) (pa_cons (pv 0) (pa_cons (pv 1) (pa_cons (pv 2) pa_nil))))))))
          (pss_cons (ps_set (i := 5) sc_led_to.nd rfl (Or.inl rfl) (pe_ifExp (pt_cmp (pc_din (hu_of hr) (pv 2) (pv 3))) (pe_dget (hu_of hr) (pv 3) (pv 2) (fun _ _ => rfl)) (pe_callB (cr_min rfl) (by rfl) B.b_min (by decide +kernel) (pa_cons (pe_slice sl_list (pv 4) (po_some (pe_bm PySem.F.plainAttrs_list PySem.F.slot_list_index PySem.F.type_list_index mt_index (pv 4) (pa_cons (pv 2) pa_nil))) po_none) pa_nil))))
          (pss_cons (ps_for PassesOwn.never rfl (pi_list (pv 4)) (pg_name (i := 6) sc_led_to.nd rfl (Or.inl rfl)) (pss_one (ps_dput (hu_of hr) (pv 3) (pv 6) (pv 5) rfl)))
          (pss_one (ps_ret (pv 5))))))), ?_⟩
    have hSl := imgs_len (b := b) (by omega) h2 (L := l.toNat) (by omega)
    have hst : ∀ x, stepM b l.toNat x ∈ imgs b l.toNat := fun x => step_imgs (by omega) _ x
    obtain ⟨f, hf⟩ : ∃ f, f = stepM b l.toNat := ⟨_, rfl⟩
    obtain ⟨S, hS0⟩ : ∃ S, S = imgs b l.toNat := ⟨_, rfl⟩
    rw [← hf, ← hS0] at q hS
    rw [← hS0] at hSl hn
    rw [← hf, ← hS0] at hst
    have hap : ∀ m, Apart f n m → m ≤ 20737 := fun m h => by
      rw [hf] at h
      exact apart_le hbl' h
    refine q_asgL (el_lst ea_nil (by decide)) fun pw H1 npw e1 hpw => ?_
    have pd : pw ≠ d := fun e => by
      rw [e, hd] at npw
      cases npw
    refine q_while (fun m σ' H' => ∃ i : Nat, m = 20738 - i ∧ Apart f n i ∧ σ' = [some (.int b), some (.int l), some (.int (it f i n)), some (.ref d), some (.ref pw), none, none] ∧ Ex H H' ∧ H' pw = some (.lst ((orb f n i).map V.int)))
      20738 ⟨0, rfl, Apart.zero f n, rfl, e1, hpw⟩ ?_
    rintro m σ' H2 ⟨i, rfl, hA, rfl, e2, hp2⟩
    have hi := hap i hA
    refine ⟨_, et_and (et_B (ev_dnotin (ev_var rfl) (ev_var rfl) (e2 d _ hd))) (fun _ => et_test (ev_op (ev_var rfl) (ev_var rfl) (rv_niL (sq_of hp2) rfl (flat_ints _)))), fun hb H3 e3 => ?_, fun hb H3 e3 => ?_⟩
    · rw [Bool.and_eq_true] at hb
      have hno : ∀ c, c < i → it f i n ≠ it f c n := fun c hc e => by
        have h := hb.2
        rw [in_ints, e] at h
        have hm : it f c n ∈ orb f n i := mem_orb.mpr ⟨c, hc, rfl⟩
        simp [hm] at h
      have hA2 := hA.succ hno
      have hi2 := hap _ hA2
      refine ⟨fun σ2 H' => Apart f n (i + 1) ∧ σ2 = [some (.int b), some (.int l), some (.int (it f (i + 1) n)), some (.ref d), some (.ref pw), none, none] ∧ Ex H H' ∧ H' pw = some (.lst ((orb f n (i + 1)).map V.int)),
        fun σ2 H' ⟨a1, a2, a3, a4⟩ => ⟨20738 - (i + 1), by omega, i + 1, rfl, a1, a2, a3, a4⟩, ?_⟩
      refine q_app (e3 pw _ hp2) (ev_var rfl) (ev_var rfl) (by rw [List.length_map, orb_len]; omega) fun H4 e4 => ?_
      refine s_asg (ev_call (ea_cons (ev_var rfl) (ea_cons (ev_var rfl) (ea_cons (ev_var rfl) ea_nil))) (sp3_v (by first | assumption | omega))) fun H5 e5 => ⟨hA2, by rw [hf] <;> rfl, (ex_set (e2.trans e3) e4 npw).trans e5, ?_⟩
      refine e5 pw _ (upd_same.trans ?_)
      rw [orb_succ, List.map_append] <;> rfl
    · -- what comes: known, or a round
      have hcase : ∃ r, IsLst f n r ∧ ((valV kvs (.inl (it f i n)) = some (.int r)) ∨ (valV kvs (.inl (it f i n)) = none ∧ ∃ c, Course f n i c ∧ r = lmin (ring f n i c))) := by
        cases ev : valV kvs (.inl (it f i n)) with
        | some v =>
          obtain ⟨r, rfl, hr⟩ := hS.ok _ _ ev
          exact ⟨r, hr.ups, .inl rfl⟩
        | none =>
          rw [ev] at hb
          have hb2 : (!inV (.int (it f i n)) ((orb f n i).map V.int)) = false := by simpa using hb
          rw [in_ints] at hb2
          have hm : it f i n ∈ orb f n i := by simpa using hb2
          obtain ⟨c, hc, ec⟩ := mem_orb.mp hm
          have hC : Course f n i c := ⟨hc, ec.symm, hA⟩
          exact ⟨_, hC.lst, .inr ⟨rfl, c, hC, rfl⟩⟩
      obtain ⟨r, hr, hcs⟩ := hcase
      have hd3 := e3 d _ (e2 d _ hd)
      refine q_asg (v := .int r) (ev_if (et_B (ev_din (ev_var rfl) (ev_var rfl) hd3)) (fun hb2 => ?_) (fun hb2 => ?_)) fun H4 e4 => ?_
      · rcases hcs with hv | ⟨hv, _⟩
        · exact ev_dget (ev_var rfl) (ev_var rfl) hd3 hv
        · rw [hv] at hb2
          cases hb2
      · rcases hcs with hv | ⟨hv, c, hC, er⟩
        · rw [hv] at hb2
          cases hb2
        · have hlt := hC.lt
          have hp3 := e3 pw _ hp2
          rw [er]
          refine ev_minN (el_is (el_sl (ev_var rfl) (eo_some (ev_index (j := c) (ev_var rfl) (sq_of hp3) (ev_var rfl) ?_ ?_)) eo_none (sq_of hp3)) (ring_cut (by omega))) (ring_pos hlt)
          · rw [orb_get hlt, hC.back]
          · intro j k hj ek
            rw [hC.back]
            exact orb_first hA hlt j k hj ek
      · have hp4 := e4 pw _ (e3 pw _ hp2)
        refine q_forLn (ev_var rfl) (sq_of hp4) (fun k σ' H' => ∃ y, σ' = [some (.int b), some (.int l), some (.int (it f i n)), some (.ref d), some (.ref pw), some (.int r), y] ∧ ExB d H H' ∧ H' pw = some (.lst ((orb f n i).map V.int)) ∧ ∃ kvs', H' d = some (.dK kvs') ∧ Snd f S kvs')
          (fun H5 e5 => ⟨_, rfl, Ex.exB (((e2.trans e3).trans e4).trans e5), e5 pw _ hp4, kvs, e5 d _ (e4 d _ hd3), hS⟩) (fun k σ' H' _ ⟨_, _, _, h, _⟩ => sq_of h) ?_ ?_
        · rintro k x σ' H5 hk ⟨y, rfl, e5, hp5, kvs', hd5, hS5⟩
          rw [List.getElem?_map] at hk
          have hki : k < i := by
            by_cases q : k < i
            · exact q
            · rw [List.getElem?_eq_none (by rw [orb_len]; omega)] at hk
              cases hk
          rw [orb_get hki] at hk
          have ex : V.int (it f k n) = x := Option.some.inj hk
          subst ex
          have hkS : it f k n ∈ S := by
            cases k with
            | zero => exact hn
            | succ k => exact hst _
          refine s_dput (ev_var rfl) (ev_var rfl) (ev_var rfl) hd5 (by have := hS5.len; omega) fun H6 e6 => ⟨_, rfl, (e5.ex e6).upd, ?_, _, upd_same, hS5.put hkS (hr.downs k)⟩
          rw [upd_ne pd]
          exact e6 pw _ hp5
        · rintro σ' H5 ⟨y, rfl, e5, hp5, kvs', hd5, hS5⟩
          exact s_ret (ev_var rfl) fun H6 e6 => q r kvs' H6 hr (e5.ex e6) (e6 d _ hd5) hS5
def sp_rounds (K : PySem.W.Frag) (mg : Str → Option Value) : Sp := fun vs H Q _ => ∃ (b l : Int) (rs : List Int), vs = [.int b, .int l] ∧ (2 ≤ b ∧ b ≤ 12 ∧ 1 ≤ l ∧ l ≤ 8) ∧ Lsts b l.toNat rs ∧
  ∀ p as H2, H p = none → Ex H H2 → Nst H H2 p as (rs.map (rnd (stepM b l.toNat))) → Q (.ref p) H2
theorem sp_rounds_n {K : PySem.W.Frag} {mg : Str → Option Value} {b l : Int} {rs : List Int} {H : Hp} (hb : 2 ≤ b ∧ b ≤ 12 ∧ 1 ≤ l ∧ l ≤ 8) (hr : Lsts b l.toNat rs) : SpN (sp_rounds K mg) [.int b, .int l] H (rs.map (rnd (stepM b l.toNat))) :=
  fun _ _ _ q _ => ⟨b, l, rs, rfl, hb, hr, q⟩
theorem q_led {K : PySem.W.Frag} {mg : Str → Option Value} {σ : L2.St} {H : Hp} {D : Ends} {tz : TS} {E : XK} {ta : TA} {b l n : Int} {d : Addr} {kvs : List (Key × V)} {i : Nat} (ha : EvA ta σ H [.int b, .int l, .int n, .ref d]) (hbl : 2 ≤ b ∧ b ≤ 12 ∧ 1 ≤ l ∧ l ≤ 8) (hn : n ∈ imgs b l.toNat) (hd : H d = some (.dK kvs)) (hS : Snd (stepM b l.toNat) (imgs b l.toNat) kvs)
    (k : ∀ r kvs' H2, IsLst (stepM b l.toNat) n r → ExB d H H2 → H2 d = some (.dK kvs') → Snd (stepM b l.toNat) (imgs b l.toNat) kvs' → tz D (σ.set i (some (.int r))) H2) : tSeq (tAsg (tCall (sp_led_to K mg) [] E ta) (gName i)) tz D σ H :=
  ha H (Ex.refl H) _ fun H1 e1 => ⟨b, l, n, d, kvs, rfl, hbl, hn, e1 d _ hd, hS, fun r kvs' H2 hr eB h2 hS2 => k r kvs' H2 hr (fun a o na h => eB a o na (e1 a o h)) h2 hS2⟩
theorem mk_img {b : Int} (hb : 2 ≤ b) {L : Nat} {s : List Int} (h : s ∈ falls b (L / 2)) : mk b L s ∈ imgs b L := by
  obtain ⟨h1, h2⟩ := (falls_mem (by omega)).mp h
  rw [← (made_step hb h1 h2).2]
  exact step_imgs (by omega) L _
theorem el_first {K : PySem.W.Frag} {mg : Str → Option Value} {σ : L2.St} {H : Hp} {E E2 : XK} {ta : TA} {b l r : Int} (hbl : 2 ≤ b ∧ b ≤ 12 ∧ 1 ≤ l ∧ l ≤ 8) (ha : EvA ta σ H [.int b, .int l, .int r]) (hr : IsLst (stepM b l.toNat) r r) :
    EvL (tCall (sp_least_first K mg) [] E (tCons (tOp (rIxT K) (tCall SpCourse [] E2 ta) (tC (.int 0))) tNil)) σ H ((rnd (stepM b l.toNat) r).map V.int) := fun H1 e Q q => by
  refine sp_course_p hbl ha H1 e _ fun v H2 e2 hR => ?_
  obtain ⟨t, x, y, rfl, ht, a, m, c, rfl, rfl, _, hC, hm, ha2⟩ := hR
  have hc := hr.course hC
  subst hc
  have hm0 := hC.lt
  refine ⟨t, _, 0, .ref a, rfl, rfl, st_of ht, atI_nat (j := 0) rfl, ?_⟩
  refine ⟨a, orb (stepM b l.toNat) r m, rfl, sq_of ha2, by rw [orb_len]; omega, ?_, ?_⟩
  · rw [orb_lmin hr hm0, orb_get hm0]
    rfl
  · rw [rnd_eq hC] at q
    exact fun p H3 hp e3 h3 => q p H3 (fresh_back e2 hp) (e2.trans e3) h3
abbrev s_rounds : Stmt := topS 36
abbrev N_rounds : List Str := ["base", "length", "known", "leasts", "some", "least"]
theorem sc_rounds : FnScope N_rounds ["base", "length"] (defScope s_rounds) := ⟨rfl, rfl, rfl, by decide +kernel, rfl, by decide +kernel, by decide +kernel⟩
theorem ok_rounds {f : Addr} {fd : FuncData} (F : Fun K "rounds" "rounds" s_rounds f fd) (B : Bf K mg) (c_check_both : Fn P w K mg base 2 "check_both" ["base", "length"] (sp_check_both K mg)) (c_all_falls : Fn P w K mg base 1 "all_falls" ["base", "many"] (sp_all_falls K mg)) (c_led_to : Fn P w K mg base 3 "led_to" ["base", "length", "number", "known"] (sp_led_to K mg)) (c_least_first : Fn P w K mg base 1 "least_first" ["ring"] (sp_least_first K mg)) (c_made_by : Fn P w K mg base 2 "made_by" ["base", "length", "differences"] (sp_made_by K mg)) (c_course_of : Fn P w K mg base 3 "course_of" ["base", "length", "number"] (sp_course_of K mg)) : FnOk P w K mg base CX0 4 f fd ["base", "length"] (sp_rounds K mg) := by
  refine F.ok (k := 3) sc_rounds (fun vs H Q E h => ?_) (fun cdv A outer s H vs Q E hr h => ?_)
  · obtain ⟨b, l, rs, rfl, _⟩ := h
    rfl
  · obtain ⟨b, l, rs, rfl, hbl, hrs, q⟩ := h
    have hbl' := hbl
    obtain ⟨h1, h2, h3, h4⟩ := hbl
    refine ⟨_, (pss_cons (ps_expr (pe_fn c_check_both (hr.mono (by decide)) (by rfl) (pa_cons (pv 0) (pa_cons (pv 1) pa_nil))))
          (pss_cons (ps_par (i := 2) (j := 3) (by rfl) sc_rounds.nd rfl rfl (by decide) rfl rfl (pa_cons pe_dnewK (pa_cons (pe_lst pa_nil) pa_nil)) (by rfl))
          (pss_cons (ps_for PassesOwn.never rfl (pi_list (pe_fn c_all_falls (hr.mono (by decide)) (by rfl) (pa_cons (pv 0) (pa_cons (pe_op op_fdiv (pv 1) pe_int) pa_nil)))) (pg_name (i := 4) sc_rounds.nd rfl (Or.inl rfl)) (pss_cons (ps_set (i := 5) sc_rounds.nd rfl (Or.inl rfl) (pe_fn c_led_to (hr.mono (by decide)) (by rfl) (pa_cons (pv 0) (pa_cons (pv 1) (pa_cons (pe_fn c_made_by (hr.mono (by decide)) (by rfl) (pa_cons (pv 0) (pa_cons (pv 1) (pa_cons (pv 4) pa_nil)))) (pa_cons (pv 2) pa_nil))))))
          (pss_one (ps_if (pt_cmpR op_notIn_seq (pv 5) (pv 3) (by rfl)) (pss_one (ps_expr (pe_bm PySem.F.plainAttrs_list PySem.F.slot_list_append PySem.F.type_list_append mt_append (pv 3) (pa_cons (pv 5) pa_nil)))) pss_nil))))
          (pss_one (ps_ret (pe_lc (own := [("least", 5)]) (g := (gName 5)) (by rfl) sc_rounds.nd (pi_list (pe_callB cr_sortedI (by rfl) B.b_sorted (by decide +kernel) (pa_cons (pv 3) pa_nil))) (blkOk_by (own := [("least", 5)]) (N := N_rounds) (sc := defScope s_rounds) (by decide +kernel)) (fun _ _ _ _ _ => (pg_name (i := 5) sc_rounds.nd rfl (Or.inl rfl))) (fun _ _ _ _ _ => pts_nil) (fun _ _ _ _ _ => (pe_fn c_least_first (hr.mono (by decide)) (by rfl) (pa_cons (pe_ix (r := rIxT K) ix_tup (pe_fn c_course_of (hr.mono (by decide)) (by rfl) (pa_cons (pv 0) (pa_cons (pv 1) (pa_cons (pv 5) pa_nil)))) pe_int (fun _ _ => rfl)) pa_nil))))))))), ?_⟩
    refine q_drop (ev_call (ea_cons (ev_var rfl) (ea_cons (ev_var rfl) ea_nil)) (sp2_v (by first | assumption | omega))) fun H1 e1 => ?_
    refine q_parDL fun d pl H2 nd npl npd e2 hd hpl => ?_
    have nd0 := fresh_back e1 nd
    have npl0 := fresh_back e1 npl
    have hL2 : (l / 2).toNat = l.toNat / 2 := by omega
    have hSl := imgs_len (b := b) (by omega) h2 (L := l.toNat) (by omega)
    have hst : ∀ x, stepM b l.toNat x ∈ imgs b l.toNat := fun x => step_imgs (by omega) _ x
    refine q_forN (en_call (ea_cons (ev_var rfl) (ea_cons (ev_op (ev_var rfl) ev_c (rv_I (by first | exact ⟨by decide, by decide⟩ | exact ⟨by omega, by omega⟩))) ea_nil)) (sp_falls_n ⟨h1, h2, by omega, by omega⟩)) fun pf as H3 npf e3 hN => ?_
    rw [hL2] at hN
    have npf0 := fresh_back (e1.trans e2) npf
    refine q_forLn ev_c (sq_of hN.top) (fun k σ' H' => ∃ y4 y5 kvs ls, σ' = [some (.int b), some (.int l), some (.ref d), some (.ref pl), y4, y5] ∧ Ex H H' ∧ Nst H2 H' pf as (falls b (l.toNat / 2)) ∧ H' d = some (.dK kvs) ∧ Snd (stepM b l.toNat) (imgs b l.toNat) kvs ∧ H' pl = some (.lst (ls.map V.int)) ∧ LsM (stepM b l.toNat) (mk b l.toNat) ((falls b (l.toNat / 2)).take k) ls)
      (fun H4 e4 => ⟨_, _, [], [], rfl, ((e1.trans e2).trans e3).trans e4, hN.ex e4, e4 d _ (e3 d _ hd), Snd.nil, e4 pl _ (e3 pl _ hpl), by rw [List.take_zero]; exact LsM.nil⟩) (fun k σ' H' _ ⟨_, _, _, _, _, _, h, _⟩ => sq_of h.top) ?_ ?_
    · rintro k x σ' H4 hk ⟨y4, y5, kvs, ls, rfl, e4, hN4, hd4, hS4, hl4, hM4⟩
      rw [List.getElem?_map] at hk
      cases ea : as[k]? with
      | none =>
        rw [ea] at hk
        cases hk
      | some a =>
        rw [ea] at hk
        have ex : V.ref a = x := Option.some.inj hk
        subst ex
        obtain ⟨s, es, ha⟩ := hN4.get ea
        have hsm := List.mem_of_getElem? es
        have hs := (falls_mem (b := b) (by omega)).mp hsm
        have had : a ≠ d := fun e => by
          have := hN4.new a (List.mem_of_getElem? ea)
          rw [e, hd] at this
          cases this
        have hpfd : pf ≠ d := fun e => by
          rw [e, hd] at npf
          cases npf
        refine q_led (ea_cons (ev_var rfl) (ea_cons (ev_var rfl) (ea_cons (ev_call (ea_cons (ev_var rfl) (ea_cons (ev_var rfl) (ea_cons (ev_var rfl) ea_nil))) (sp_made_v (sq_of ha) hbl' (by rw [hs.1]; omega) hs.2.2)) (ea_cons (ev_var rfl) ea_nil)))) hbl' (mk_img h1 hsm) hd4 hS4 fun r kvs5 H5 hr eB hd5 hS5 => ?_
        have e5 : Ex H H5 := eB.base e4 nd0
        have hN5 : Nst H2 H5 pf as (falls b (l.toNat / 2)) := by
          refine ⟨eB pf _ hpfd hN4.top, hN4.nd, hN4.new, ?_⟩
          rw [← hN4.all]
          refine List.map_congr_left fun a2 ha2 => ?_
          obtain ⟨ns, _, h9⟩ := hN4.mem ha2
          rw [h9]
          refine eB a2 _ (fun e => ?_) h9
          have := hN4.new a2 ha2
          rw [e, hd] at this
          cases this
        have hl5 : H5 pl = some (.lst (ls.map V.int)) := eB pl _ npd hl4
        have hM5 := hM4.add (s := s) hr
        rw [← wd es] at hM5
        refine s_when (et_test (ev_op (ev_var rfl) (ev_var rfl) (rv_niL (sq_of hl5) rfl (flat_ints _)))) (fun hb H6 e6 => ?_) (fun hb H6 e6 => ?_)
        · rw [in_ints] at hb
          have hm : r ∉ ls := by simpa using hb
          rw [if_neg hm] at hM5
          have hlen := hM4.sub hst
          refine s_app (e6 pl _ hl5) (ev_var rfl) (ev_var rfl) (by rw [List.length_map]; omega) fun H7 e7 => ?_
          have n1 : ∀ a2, a2 = pf ∨ a2 ∈ as → a2 ≠ pl := fun a2 h9 e => by
            rcases h9 with h9 | h9
            · rw [← h9, e, hpl] at npf
              cases npf
            · have := hN4.new a2 h9
              rw [e, hpl] at this
              cases this
          refine ⟨_, _, kvs5, ls ++ [r], rfl, Ex.mut ((e5.trans e6).trans e7) npl0, ?_, ?_, hS5, ?_, hM5⟩
          · have g := hN5.ex (e6.trans e7)
            refine ⟨?_, g.nd, g.new, ?_⟩
            · rw [upd_ne (n1 pf (.inl rfl))]
              exact g.top
            · rw [← g.all]
              exact List.map_congr_left fun a2 ha2 => upd_ne (n1 a2 (.inr ha2))
          · rw [upd_ne npd.symm]
            exact e7 d _ (e6 d _ hd5)
          · rw [upd_same, List.map_append]
            rfl
        · rw [in_ints] at hb
          have hm : r ∈ ls := by simpa using hb
          rw [if_pos hm] at hM5
          exact ⟨_, _, kvs5, ls, rfl, e5.trans e6, hN5.ex e6, e6 d _ hd5, hS5, e6 pl _ hl5, hM5⟩
    · rintro σ' H4 ⟨y4, y5, kvs, ls, rfl, e4, hN4, hd4, hS4, hl4, hM4⟩
      rw [List.length_map, hN4.len, List.take_length] at hM4
      have hrl := (Lsts.of h1 hM4).one hrs
      have hlen := hM4.sub hst
      rw [← hrl] at q
      refine s_retN (en_lcNL (K := K) (rnd (stepM b l.toNat)) (el_sorted (ev_var rfl) (sq_of hl4)) (by rw [srt_length]; omega) (fun _ => rfl) fun m hm H5 e5 => el_first hbl' (ea_cons (ev_var rfl) (ea_cons (ev_var rfl) (ea_cons (ev_var rfl) ea_nil))) ?_) fun p as H5 np e5 hN5 => q p as H5 (fresh_back e4 np) (e4.trans e5) (hN5.back e4)
      obtain ⟨s, _, hs⟩ := (hM4.mem m).mp ((srt_perm ls).mem_iff.mp hm)
      exact hs.self
def sp_falls (K : PySem.W.Frag) (mg : Str → Option Value) : Sp := fun vs H Q _ => ∃ (b l : Int) (rs : List Int), vs = [.int b, .int l] ∧ (2 ≤ b ∧ b ≤ 12 ∧ 1 ≤ l ∧ l ≤ 8) ∧ Lsts b l.toNat rs ∧ rs.length < 64 ∧ RetL ((rs.map fun r => (fallN b.toNat l.toNat r : Int)).map V.int) H Q
theorem sp_fallen_l {K : PySem.W.Frag} {mg : Str → Option Value} {b l : Int} {rs : List Int} {H : Hp} (hb : 2 ≤ b ∧ b ≤ 12 ∧ 1 ≤ l ∧ l ≤ 8) (hr : Lsts b l.toNat rs) (hl : rs.length < 64) : SpL (sp_falls K mg) [.int b, .int l] H ((rs.map fun r => (fallN b.toNat l.toNat r : Int)).map V.int) :=
  fun _ _ _ q _ => ⟨b, l, rs, rfl, hb, hr, hl, q⟩
abbrev s_falls : Stmt := topS 37
abbrev N_falls : List Str := ["base", "length", "known", "counts", "some", "least"]
theorem sc_falls : FnScope N_falls ["base", "length"] (defScope s_falls) := ⟨rfl, rfl, rfl, by decide +kernel, rfl, by decide +kernel, by decide +kernel⟩
theorem ok_falls {f : Addr} {fd : FuncData} (F : Fun K "falls" "falls" s_falls f fd) (B : Bf K mg) (c_check_both : Fn P w K mg base 2 "check_both" ["base", "length"] (sp_check_both K mg)) (c_all_falls : Fn P w K mg base 1 "all_falls" ["base", "many"] (sp_all_falls K mg)) (c_led_to : Fn P w K mg base 3 "led_to" ["base", "length", "number", "known"] (sp_led_to K mg)) (c_made_by : Fn P w K mg base 2 "made_by" ["base", "length", "differences"] (sp_made_by K mg)) (c_many_with : Fn P w K mg base 2 "many_with" ["base", "length", "differences"] (sp_many_with K mg)) : FnOk P w K mg base CX0 4 f fd ["base", "length"] (sp_falls K mg) := by
  refine F.ok (k := 3) sc_falls (fun vs H Q E h => ?_) (fun cdv A outer s H vs Q E hr h => ?_)
  · obtain ⟨b, l, rs, rfl, _⟩ := h
    rfl
  · obtain ⟨b, l, rs, rfl, hbl, hrs, h64, q⟩ := h
    have hbl' := hbl
    obtain ⟨h1, h2, h3, h4⟩ := hbl
    refine ⟨_, (pss_cons (ps_expr (pe_fn c_check_both (hr.mono (by decide)) (by rfl) (pa_cons (pv 0) (pa_cons (pv 1) pa_nil))))
          (pss_cons (ps_asg (pe_tup (pa_cons pe_dnewK (pa_cons pe_dnewK pa_nil))) (pg_tup rfl (pgs_cons (pg_name (i := 2) sc_falls.nd rfl (Or.inl rfl)) (pgs_cons (pg_name (i := 3) sc_falls.nd rfl (Or.inr rfl)) pgs_nil))))
          (pss_cons (ps_for PassesOwn.never rfl (pi_list (pe_fn c_all_falls (hr.mono (by decide)) (by rfl) (pa_cons (pv 0) (pa_cons (pe_op op_fdiv (pv 1) pe_int) pa_nil)))) (pg_name (i := 4) sc_falls.nd rfl (Or.inl rfl)) (pss_cons (ps_set (i := 5) sc_falls.nd rfl (Or.inl rfl) (pe_fn c_led_to (hr.mono (by decide)) (by rfl) (pa_cons (pv 0) (pa_cons (pv 1) (pa_cons (pe_fn c_made_by (hr.mono (by decide)) (by rfl) (pa_cons (pv 0) (pa_cons (pv 1) (pa_cons (pv 4) pa_nil)))) (pa_cons (pv 2) pa_nil))))))
          (pss_one (ps_dput (hu_of hr) (pv 3) (pv 5) (pe_op op_add (pe_dget2 (hu_of hr) (pv 3) (pv 5) pe_int ⟨rfl, rfl, rfl, rfl⟩) (pe_fn c_many_with (hr.mono (by decide)) (by rfl) (pa_cons (pv 0) (pa_cons (pv 1) (pa_cons (pv 4) pa_nil))))) rfl))))
          (pss_one (ps_ret (pe_lc (own := [("least", 5)]) (g := (gName 5)) (by rfl) sc_falls.nd (pi_list (pe_callB (call_sortedDI rfl) (by rfl) B.b_sorted (by decide +kernel) (pa_cons (pv 3) pa_nil))) (blkOk_by (own := [("least", 5)]) (N := N_falls) (sc := defScope s_falls) (by decide +kernel)) (fun _ _ _ _ _ => (pg_name (i := 5) sc_falls.nd rfl (Or.inl rfl))) (fun _ _ _ _ _ => pts_nil) (fun _ _ _ _ _ => (pe_dget (hu_of hr) (pv 3) (pv 5) (fun _ _ => rfl))))))))), ?_⟩
    refine q_drop (ev_call (ea_cons (ev_var rfl) (ea_cons (ev_var rfl) ea_nil)) (sp2_v (by first | assumption | omega))) fun H1 e1 => ?_
    refine q_tupDD fun d pc H2 nd npc npd e2 hd hpc => ?_
    have nd0 := fresh_back e1 nd
    have npc0 := fresh_back e1 npc
    have hL2 : (l / 2).toNat = l.toNat / 2 := by omega
    have hSl := imgs_len (b := b) (by omega) h2 (L := l.toNat) (by omega)
    have hst : ∀ x, stepM b l.toNat x ∈ imgs b l.toNat := fun x => step_imgs (by omega) _ x
    refine q_forN (en_call (ea_cons (ev_var rfl) (ea_cons (ev_op (ev_var rfl) ev_c (rv_I (by first | exact ⟨by decide, by decide⟩ | exact ⟨by omega, by omega⟩))) ea_nil)) (sp_falls_n ⟨h1, h2, by omega, by omega⟩)) fun pf as H3 npf e3 hN => ?_
    rw [hL2] at hN
    refine q_forLn ev_c (sq_of hN.top) (fun k σ' H' => ∃ y4 y5 kvs kcs ls, σ' = [some (.int b), some (.int l), some (.ref d), some (.ref pc), y4, y5] ∧ Ex H H' ∧ Nst H2 H' pf as (falls b (l.toNat / 2)) ∧ H' d = some (.dK kvs) ∧ Snd (stepM b l.toNat) (imgs b l.toNat) kvs ∧ H' pc = some (.dK kcs) ∧ KI kcs ls ∧ LsM (stepM b l.toNat) (mk b l.toNat) ((falls b (l.toNat / 2)).take k) ls ∧ ∀ r, (valV kcs (.inl r)).getD (.int 0) = .int (fallS b l.toNat ((falls b (l.toNat / 2)).take k) r))
      (fun H4 e4 => ⟨_, _, [], [], [], rfl, ((e1.trans e2).trans e3).trans e4, hN.ex e4, e4 d _ (e3 d _ hd), Snd.nil, e4 pc _ (e3 pc _ hpc), KI.nil, by rw [List.take_zero]; exact LsM.nil, fun r => by rw [List.take_zero]; rfl⟩) (fun k σ' H' _ ⟨_, _, _, _, _, _, _, h, _⟩ => sq_of h.top) ?_ ?_
    · rintro k x σ' H4 hk ⟨y4, y5, kvs, kcs, ls, rfl, e4, hN4, hd4, hS4, hc4, hK4, hM4, hV4⟩
      rw [List.getElem?_map] at hk
      cases ea : as[k]? with
      | none =>
        rw [ea] at hk
        cases hk
      | some a =>
        rw [ea] at hk
        have ex : V.ref a = x := Option.some.inj hk
        subst ex
        obtain ⟨s, es, ha⟩ := hN4.get ea
        have hsm := List.mem_of_getElem? es
        have hs := (falls_mem (b := b) (by omega)).mp hsm
        have nw : ∀ a2, a2 = pf ∨ a2 ∈ as → a2 ≠ d ∧ a2 ≠ pc := fun a2 h9 => by
          have h10 : H2 a2 = none := by
            rcases h9 with h9 | h9
            · rw [h9]
              exact npf
            · exact hN4.new a2 h9
          exact ⟨fun e => (by rw [e, hd] at h10; cases h10), fun e => (by rw [e, hpc] at h10; cases h10)⟩
        refine q_led (ea_cons (ev_var rfl) (ea_cons (ev_var rfl) (ea_cons (ev_call (ea_cons (ev_var rfl) (ea_cons (ev_var rfl) (ea_cons (ev_var rfl) ea_nil))) (sp_made_v (sq_of ha) hbl' (by rw [hs.1]; omega) hs.2.2)) (ea_cons (ev_var rfl) ea_nil)))) hbl' (mk_img h1 hsm) hd4 hS4 fun r kvs5 H5 hr eB hd5 hS5 => ?_
        have e5 : Ex H H5 := eB.base e4 nd0
        have hN5 : Nst H2 H5 pf as (falls b (l.toNat / 2)) := by
          refine ⟨eB pf _ (nw pf (.inl rfl)).1 hN4.top, hN4.nd, hN4.new, ?_⟩
          rw [← hN4.all]
          refine List.map_congr_left fun a2 ha2 => ?_
          obtain ⟨ns, _, h9⟩ := hN4.mem ha2
          rw [h9]
          exact eB a2 _ (nw a2 (.inr ha2)).1 h9
        have hc5 : H5 pc = some (.dK kcs) := eB pc _ npd hc4
        have ha5 : H5 a = some (.lst (s.map V.int)) := eB a _ (nw a (.inr (List.mem_of_getElem? ea))).1 ha
        have hM5 := hM4.add (s := s) hr
        rw [← wd es] at hM5
        have hlen := hM4.sub hst
        refine s_dput (v := .int (fallS b l.toNat ((falls b (l.toNat / 2)).take k) r + manyM b l.toNat s)) (ev_op (ev_is (ev_dget2 (ev_var rfl) (ev_var rfl) ev_c hc5) (hV4 r)) (ev_call (ea_cons (ev_var rfl) (ea_cons (ev_var rfl) (ea_cons (ev_var rfl) ea_nil))) (sp_many_v (sq_of ha5) hbl' hs.2.2 hs.1)) rv_I0) (ev_var rfl) (ev_var rfl) hc5 (by rw [hK4.len]; omega) fun H6 e6 => ?_
        refine ⟨_, _, kvs5, _, _, rfl, Ex.mut (e5.trans e6) npc0, ?_, ?_, hS5, upd_same, hK4.put r _, hM5, fun r2 => ?_⟩
        · have g := hN5.ex e6
          refine ⟨?_, g.nd, g.new, ?_⟩
          · rw [upd_ne (nw pf (.inl rfl)).2]
            exact g.top
          · rw [← g.all]
            exact List.map_congr_left fun a2 ha2 => upd_ne (nw a2 (.inr ha2)).2
        · rw [upd_ne npd.symm]
          exact e6 d _ hd5
        · rw [valV_putI, wd es, fallS_snoc, lstC_eq hr]
          by_cases e : r2 = r
          · rw [if_pos e, if_pos e.symm, e]
            rfl
          · rw [if_neg e, if_neg fun h => e h.symm, hV4 r2, Int.add_zero]
    · rintro σ' H4 ⟨y4, y5, kvs, kcs, ls, rfl, e4, hN4, hd4, hS4, hc4, hK4, hM4, hV4⟩
      rw [List.length_map, hN4.len, List.take_length] at hM4 hV4
      have hrl := (Lsts.of h1 hM4).one hrs
      have hll : ls.length = rs.length := by rw [← hrl, srt_length]
      obtain ⟨bn, rfl⟩ := Int.eq_ofNat_of_zero_le (show 0 ≤ b by omega)
      refine s_retL (el_is (el_mapNL (K := K) (g := fun v => match v with | .int r => .int (fallN bn l.toNat r : Int) | v => v) (el_sortedD (ev_var rfl) hc4 hK4 (by omega)) (by rw [List.length_map, srt_length]; omega) (fun _ => rfl) fun x hx H5 e5 => ?_) (by rw [hrl, List.map_map, List.map_map]; rfl)) fun p H5 np e5 hp => q p H5 (fresh_back e4 np) (e4.trans e5) hp
      obtain ⟨r, hr9, rfl⟩ := List.mem_map.mp hx
      have hmem : r ∈ ls := (srt_perm ls).mem_iff.mp hr9
      have hv : valV kcs (.inl r) = some (.int (fallN bn l.toNat r : Int)) := by
        have g := hV4 r
        rw [fall_eq (by omega) (by omega) h3 h4] at g
        have g2 := (hK4.some_iff r).mpr hmem
        cases e : valV kcs (.inl r) with
        | none =>
          rw [e] at g2
          cases g2
        | some v =>
          rw [e] at g
          exact congrArg some g
      exact ev_dget (ev_var rfl) (ev_var rfl) (e5 pc _ hc4) hv
def sp__law_cell_at (K : PySem.W.Frag) (mg : Str → Option Value) : Sp := fun vs H Q _ => ∃ (a : Addr) (ns : List Int) (k : Int), vs = [.ref a, .int k] ∧ SqL K H a (ns.map V.int) ∧ 0 ≤ k ∧ RetV (.int (ns.getD k.toNat 0)) H Q
theorem sp_cell_v {K : PySem.W.Frag} {mg : Str → Option Value} {a : Addr} {ns : List Int} {k : Int} {H : Hp} (hs : SqL K H a (ns.map V.int)) (h : 0 ≤ k) : SpV (sp__law_cell_at K mg) [.ref a, .int k] H (.int (ns.getD k.toNat 0)) :=
  fun _ e _ q _ => ⟨a, ns, k, rfl, ex_l e hs, h, q⟩
theorem at_getD {ns : List Int} {k : Int} (h0 : 0 ≤ k) (h1 : k < ((ns.map V.int).length : Int)) : atI (ns.map V.int) k = some (.int (ns.getD k.toNat 0)) := by
  rw [List.length_map] at h1
  refine at_of (j := k.toNat) (by omega) ?_
  rw [List.getElem?_map, List.getD_eq_getElem?_getD, List.getElem?_eq_getElem (by omega)] <;> rfl
abbrev s__law_cell_at : Stmt := topS 39
abbrev N__law_cell_at : List Str := ["_law_script", "_law_k"]
theorem sc__law_cell_at : FnScope N__law_cell_at ["_law_script", "_law_k"] (defScope s__law_cell_at) := ⟨rfl, rfl, rfl, by decide +kernel, rfl, by decide +kernel, by decide +kernel⟩
theorem ok__law_cell_at {f : Addr} {fd : FuncData} (F : Fun K "_law_cell_at" "_law_cell_at" s__law_cell_at f fd) (B : Bf K mg) : FnOk P w K mg base CX0 1 f fd ["_law_script", "_law_k"] (sp__law_cell_at K mg) := by
  refine F.ok (k := 0) sc__law_cell_at (fun vs H Q E h => ?_) (fun cdv A outer s H vs Q E hr h => ?_)
  · obtain ⟨a, ns, k, rfl, _⟩ := h
    rfl
  · obtain ⟨a, ns, k, rfl, hs, h0, q⟩ := h
    refine ⟨_, (pss_cons (ps_if (pt_cmpR op_lt (pv 1) (pe_callB call_len_seq (by rfl) B.b_len PySem.boot_len (pa_cons (pv 0) pa_nil)) (nomark _)) (pss_one (ps_ret (pe_ix ix_list (pv 0) (pv 1) (fun _ _ => rfl)))) pss_nil)
          (pss_one (ps_ret pe_int))), ?_⟩
    refine q_when (et_test (ev_op (ev_var rfl) (ev_len (ev_var rfl) hs) rv_I0)) (fun hb H1 e1 => ?_) (fun hb H1 e1 => ?_)
    · have hb' := of_decide_eq_true hb
      exact s_ret (ev_op (ev_var rfl) (ev_var rfl) (rv_ixL (ex_l e1 hs) (at_getD h0 hb'))) fun H2 e2 => q H2 (e1.trans e2)
    · have hb' := of_decide_eq_false hb
      rw [List.length_map] at hb'
      have e : ns.getD k.toNat 0 = 0 := by
        rw [List.getD_eq_getElem?_getD, List.getElem?_eq_none (by omega)] <;> rfl
      rw [e] at q
      exact s_ret ev_c fun H2 e2 => q H2 (e1.trans e2)
def primes : List Int := [1000003, 1000033, 1000037, 1000039, 1000081, 1000099, 1000117, 1000121, 1000133, 1000151, 1000159, 1000171, 1000183, 1000187, 1000193, 1000199]
def drawM (c k m : Int) : Int := (c * 48271 + k * 69621) % (primes.getD (k % 16).toNat 1) % m
theorem primes_pos : ∀ i, 0 < primes.getD i 1
  | 0 | 1 | 2 | 3 | 4 | 5 | 6 | 7 | 8 | 9 | 10 | 11 | 12 | 13 | 14 | 15 => by decide
  | i + 16 => by
    rw [List.getD_eq_getElem?_getD, List.getElem?_eq_none (by show 16 ≤ i + 16; omega)] <;> decide
theorem primes_at (k : Int) : atI (primes.map V.int) (k % 16) = some (.int (primes.getD (k % 16).toNat 1)) := by
  have h0 := Int.emod_nonneg k (show (16 : Int) ≠ 0 by decide)
  have h1 := Int.emod_lt_of_pos k (show (0 : Int) < 16 by decide)
  refine at_of (j := (k % 16).toNat) (by omega) ?_
  rw [List.getElem?_map, List.getD_eq_getElem?_getD, List.getElem?_eq_getElem (by show (k % 16).toNat < 16; omega)] <;> rfl
theorem draw_nn (c k : Int) {m : Int} (h : 0 < m) : 0 ≤ drawM c k m := Int.emod_nonneg _ (by omega)
def sp__law_draw (K : PySem.W.Frag) (mg : Str → Option Value) : Sp := sp3 (fun _ _ m => 0 < m) (fun c k m => .int (drawM c k m))
abbrev s__law_draw : Stmt := topS 40
abbrev N__law_draw : List Str := ["_law_cell", "_law_k", "_law_many_here", "_law_primes"]
theorem sc__law_draw : FnScope N__law_draw ["_law_cell", "_law_k", "_law_many_here"] (defScope s__law_draw) := ⟨rfl, rfl, rfl, by decide +kernel, rfl, by decide +kernel, by decide +kernel⟩
theorem ok__law_draw {f : Addr} {fd : FuncData} (F : Fun K "_law_draw" "_law_draw" s__law_draw f fd) (B : Bf K mg) : FnOk P w K mg base CX0 1 f fd ["_law_cell", "_law_k", "_law_many_here"] (sp__law_draw K mg) := by
  refine F.ok (k := 0) sc__law_draw (fun vs H Q E h => ?_) (fun cdv A outer s H vs Q E hr h => ?_)
  · obtain ⟨a, b, c, rfl, _⟩ := h
    rfl
  · obtain ⟨c, k, m, rfl, hm, q⟩ := h
    have hm : 0 < m := hm
    have hpp := primes_pos (k % 16).toNat
    refine ⟨_, (pss_cons (ps_set (i := 3) sc__law_draw.nd rfl (Or.inl rfl) (pe_tup (pa_cons pe_int (pa_cons pe_int (pa_cons pe_int (pa_cons pe_int (pa_cons pe_int (pa_cons pe_int (pa_cons pe_int (pa_cons pe_int (pa_cons pe_int (pa_cons pe_int (pa_cons pe_int (pa_cons pe_int (pa_cons pe_int (pa_cons pe_int (pa_cons pe_int (pa_cons pe_int pa_nil))))))))))))))))))
          (pss_one (ps_ret (pe_op op_mod (pe_op op_mod (pe_op op_add (pe_op op_mul (pv 0) pe_int) (pe_op op_mul (pv 1) pe_int)) (pe_ix ix_tup (pv 3) (pe_op op_mod (pv 1) pe_int) (fun _ _ => rfl))) (pv 2))))), ?_⟩
    refine q_asgU (xs := primes.map V.int) (eu_tup (ea_cons ev_c (ea_cons ev_c (ea_cons ev_c (ea_cons ev_c (ea_cons ev_c (ea_cons ev_c (ea_cons ev_c (ea_cons ev_c (ea_cons ev_c (ea_cons ev_c (ea_cons ev_c (ea_cons ev_c (ea_cons ev_c (ea_cons ev_c (ea_cons ev_c (ea_cons ev_c ea_nil)))))))))))))))) (by decide)) fun p H1 np e1 hp => ?_
    exact s_ret (ev_op (ev_op (ev_op (ev_op (ev_var rfl) ev_c (rv_I (by first | exact Or.inr ⟨by omega, by omega⟩ | exact Or.inl ⟨by omega, by omega⟩))) (ev_op (ev_var rfl) ev_c (rv_I (by first | exact Or.inr ⟨by omega, by omega⟩ | exact Or.inl ⟨by omega, by omega⟩))) rv_I0) (ev_op (ev_var rfl) (ev_op (ev_var rfl) ev_c (rv_I (by decide))) (rv_ixT (st_of hp) (primes_at k))) (rv_I (by first | decide | omega))) (ev_var rfl) (rv_I (by first | decide | omega))) fun H2 e2 => q H2 (e1.trans e2)
def valueM (c t : Int) : Int := if (10 : Int) ^ (18 : Int).toNat ≤ c then (c - 10 ^ (18 : Int).toNat) / 2 ^ (3 * t).toNat
  else drawM ((c + 977 * t) * (c + 31 * t + 5)) (t % 9 + 1) 999983 * 1000003 + drawM ((c + 31 * t) * (c + 7) + 977 * t) (t % 7 + 2) 1000003
theorem value_nn (c t : Int) : 0 ≤ valueM c t := by
  unfold valueM
  split
  · rename_i h
    refine Int.ediv_nonneg (by omega) ?_
    exact Int.le_of_lt (Int.pow_pos (by decide))
  · have h1 := draw_nn ((c + 977 * t) * (c + 31 * t + 5)) (t % 9 + 1) (show (0 : Int) < 999983 by decide)
    have h2 := draw_nn ((c + 31 * t) * (c + 7) + 977 * t) (t % 7 + 2) (show (0 : Int) < 1000003 by decide)
    omega
def sp__law_value (K : PySem.W.Frag) (mg : Str → Option Value) : Sp := sp2 (fun c t => Bt c ∧ 0 ≤ t ∧ t ≤ 100) (fun c t => .int (valueM c t))
abbrev s__law_value : Stmt := topS 41
abbrev N__law_value : List Str := ["_law_cell", "_law_turn", "_law_mixed"]
theorem sc__law_value : FnScope N__law_value ["_law_cell", "_law_turn"] (defScope s__law_value) := ⟨rfl, rfl, rfl, by decide +kernel, rfl, by decide +kernel, by decide +kernel⟩
theorem ok__law_value {f : Addr} {fd : FuncData} (F : Fun K "_law_value" "_law_value" s__law_value f fd) (B : Bf K mg) (c__law_draw : Fn P w K mg base 1 "_law_draw" ["_law_cell", "_law_k", "_law_many_here"] (sp__law_draw K mg)) : FnOk P w K mg base CX0 2 f fd ["_law_cell", "_law_turn"] (sp__law_value K mg) := by
  refine F.ok (k := 1) sc__law_value (fun vs H Q E h => ?_) (fun cdv A outer s H vs Q E hr h => ?_)
  · obtain ⟨a, b, rfl, _⟩ := h
    rfl
  · obtain ⟨c, t, rfl, ⟨hc, h0, h1⟩, q⟩ := h
    have q : RetV (.int (valueM c t)) H Q := q
    refine ⟨_, (pss_cons (ps_if (pt_cmpR op_ge (pv 0) (pe_op op_pow pe_int pe_int) (nomark _)) (pss_one (ps_ret (pe_op op_shr (pe_op op_sub (pv 0) (pe_op op_pow pe_int pe_int)) (pe_op op_mul pe_int (pv 1))))) pss_nil)
          (pss_cons (ps_set (i := 2) sc__law_value.nd rfl (Or.inl rfl) (pe_fn c__law_draw (hr.mono (by decide)) (by rfl) (pa_cons (pe_op op_mulX (pe_op op_add (pv 0) (pe_op op_mul pe_int (pv 1))) (pe_op op_add (pe_op op_add (pv 0) (pe_op op_mul pe_int (pv 1))) pe_int)) (pa_cons (pe_op op_add (pe_op op_mod (pv 1) pe_int) pe_int) (pa_cons pe_int pa_nil)))))
          (pss_one (ps_ret (pe_op op_add (pe_op op_mul (pv 2) pe_int) (pe_fn c__law_draw (hr.mono (by decide)) (by rfl) (pa_cons (pe_op op_add (pe_op op_mulX (pe_op op_add (pv 0) (pe_op op_mul pe_int (pv 1))) (pe_op op_add (pv 0) pe_int)) (pe_op op_mul pe_int (pv 1))) (pa_cons (pe_op op_add (pe_op op_mod (pv 1) pe_int) pe_int) (pa_cons pe_int pa_nil))))))))), ?_⟩
    refine q_when (et_test (ev_op (ev_var rfl) (ev_op ev_c ev_c (rv_I (by exact ⟨by decide, by decide, by decide⟩))) rv_I0)) (fun hb H1 e1 => ?_) (fun hb H1 e1 => ?_)
    · have hb' := of_decide_eq_true hb
      have ev : valueM c t = (c - 10 ^ (18 : Int).toNat) / 2 ^ (3 * t).toNat := if_pos hb'
      rw [ev] at q
      exact s_ret (ev_op (ev_op (ev_var rfl) (ev_op ev_c ev_c (rv_I (by exact ⟨by decide, by decide, by decide⟩))) rv_I0) (ev_op ev_c (ev_var rfl) (rv_I (by first | exact Or.inr ⟨by omega, by omega⟩ | exact Or.inl ⟨by omega, by omega⟩))) (rv_I (by first | decide | omega))) fun H2 e2 => q H2 (e1.trans e2)
    · have hb' := of_decide_eq_false hb
      have ev : valueM c t = drawM ((c + 977 * t) * (c + 31 * t + 5)) (t % 9 + 1) 999983 * 1000003 + drawM ((c + 31 * t) * (c + 7) + 977 * t) (t % 7 + 2) 1000003 := if_neg hb'
      rw [ev] at q
      refine q_asg (ev_call (ea_cons (ev_op (ev_op (ev_var rfl) (ev_op ev_c (ev_var rfl) (rv_I (by first | exact Or.inr ⟨by omega, by omega⟩ | exact Or.inl ⟨by omega, by omega⟩))) rv_I0) (ev_op (ev_op (ev_var rfl) (ev_op ev_c (ev_var rfl) (rv_I (by first | exact Or.inr ⟨by omega, by omega⟩ | exact Or.inl ⟨by omega, by omega⟩))) rv_I0) ev_c rv_I0) (rv_I (mulx_of (hc.add (by omega)) (by rw [Int.add_assoc]; exact hc.add (by omega))))) (ea_cons (ev_op (ev_op (ev_var rfl) ev_c (rv_I (by first | decide | omega))) ev_c rv_I0) (ea_cons ev_c ea_nil))) (sp3_v (by decide))) fun H2 e2 => ?_
      exact s_ret (ev_op (ev_op (ev_var rfl) ev_c (rv_I (by first | exact Or.inr ⟨by omega, by omega⟩ | exact Or.inl ⟨by omega, by omega⟩))) (ev_call (ea_cons (ev_op (ev_op (ev_op (ev_var rfl) (ev_op ev_c (ev_var rfl) (rv_I (by first | exact Or.inr ⟨by omega, by omega⟩ | exact Or.inl ⟨by omega, by omega⟩))) rv_I0) (ev_op (ev_var rfl) ev_c rv_I0) (rv_I (mulx_of (hc.add (by omega)) (hc.add (by omega))))) (ev_op ev_c (ev_var rfl) (rv_I (by first | exact Or.inr ⟨by omega, by omega⟩ | exact Or.inl ⟨by omega, by omega⟩))) rv_I0) (ea_cons (ev_op (ev_op (ev_var rfl) ev_c (rv_I (by first | decide | omega))) ev_c rv_I0) (ea_cons ev_c ea_nil))) (sp3_v (by decide))) rv_I0) fun H3 e3 => q H3 ((e1.trans e2).trans e3)
def sp__law_many (K : PySem.W.Frag) (mg : Str → Option Value) : Sp := sp2 (fun b n => 2 ≤ b ∧ b ≤ 12 ∧ 0 ≤ n ∧ n ≤ 8) (fun b n => .int (pw b n.toNat))
abbrev s__law_many : Stmt := topS 42
abbrev N__law_many : List Str := ["_law_base", "_law_length", "_law_found", "_law_turn"]
theorem sc__law_many : FnScope N__law_many ["_law_base", "_law_length"] (defScope s__law_many) := ⟨rfl, rfl, rfl, by decide +kernel, rfl, by decide +kernel, by decide +kernel⟩
theorem ok__law_many {f : Addr} {fd : FuncData} (F : Fun K "_law_many" "_law_many" s__law_many f fd) (B : Bf K mg) : FnOk P w K mg base CX0 1 f fd ["_law_base", "_law_length"] (sp__law_many K mg) := by
  refine F.ok (k := 0) sc__law_many (fun vs H Q E h => ?_) (fun cdv A outer s H vs Q E hr h => ?_)
  · obtain ⟨a, b, rfl, _⟩ := h
    rfl
  · obtain ⟨b, n, rfl, ⟨h1, h2, h3, h4⟩, q⟩ := h
    refine ⟨_, (pss_cons (ps_set (i := 2) sc__law_many.nd rfl (Or.inl rfl) pe_int)
          (pss_cons (ps_for PassesOwn.never rfl (pi_range1 (by rfl) B.b_range (pa_cons (pv 1) pa_nil)) (pg_name (i := 3) sc__law_many.nd rfl (Or.inl rfl)) (pss_one (ps_set (i := 2) sc__law_many.nd rfl (Or.inl rfl) (pe_op op_mul (pv 2) (pv 0)))))
          (pss_one (ps_ret (pv 2))))), ?_⟩
    refine q_asg ev_c fun H1 e1 => ?_
    refine q_forR1 (ea_cons (ev_var rfl) ea_nil) (by omega) (fun i σ' H' => ∃ y, σ' = [some (.int b), some (.int n), some (.int (pw b i)), y] ∧ Ex H H') (fun H2 e2 => ⟨none, rfl, e1.trans e2⟩) ?_ ?_
    · rintro i σ' H' hi ⟨y, rfl, e⟩
      exact s_asg (ev_op (ev_var rfl) (ev_var rfl) (rv_I (by first | exact Or.inr ⟨by omega, by omega⟩ | exact Or.inl ⟨by omega, by omega⟩))) fun H2 e2 => ⟨_, rfl, e.trans e2⟩
    · rintro σ' H' ⟨y, rfl, e⟩
      exact s_ret (ev_var rfl) fun H2 e2 => q H2 (e.trans e2)
def sp__law_all_whole (K : PySem.W.Frag) (mg : Str → Option Value) : Sp := fun vs H Q _ => ∃ (p : Addr) (ns : List Int), vs = [.ref p] ∧ SqL K H p (ns.map V.int) ∧ ns.length ≤ 40000 ∧ RetV (.bl true) H Q
theorem sp_allw_v {K : PySem.W.Frag} {mg : Str → Option Value} {p : Addr} {ns : List Int} {H : Hp} (hs : SqL K H p (ns.map V.int)) (hl : ns.length ≤ 40000) : SpV (sp__law_all_whole K mg) [.ref p] H (.bl true) :=
  fun _ e _ q _ => ⟨p, ns, rfl, ex_l e hs, hl, q⟩
abbrev s__law_all_whole : Stmt := topS 43
abbrev N__law_all_whole : List Str := ["_law_numbers", "_law_one"]
theorem sc__law_all_whole : FnScope N__law_all_whole ["_law_numbers"] (defScope s__law_all_whole) := ⟨rfl, rfl, rfl, by decide +kernel, rfl, by decide +kernel, by decide +kernel⟩
theorem ok__law_all_whole {f : Addr} {fd : FuncData} (F : Fun K "_law_all_whole" "_law_all_whole" s__law_all_whole f fd) (B : Bf K mg) : FnOk P w K mg base CX0 1 f fd ["_law_numbers"] (sp__law_all_whole K mg) := by
  refine F.ok (k := 0) sc__law_all_whole (fun vs H Q E h => ?_) (fun cdv A outer s H vs Q E hr h => ?_)
  · obtain ⟨p, ns, rfl, _⟩ := h
    rfl
  · obtain ⟨p, ns, rfl, hs, hl, q⟩ := h
    refine ⟨_, (pss_one (ps_ret (pe_callB (cr_all rfl) (by rfl) B.b_all (by decide +kernel) (pa_cons (pe_lc (own := [("_law_one", 1)]) (g := (gName 1)) (by rfl) sc__law_all_whole.nd (pi_list (pv 0)) (blkOk_by (own := [("_law_one", 1)]) (N := N__law_all_whole) (sc := defScope s__law_all_whole) (by decide +kernel)) (fun _ _ _ _ _ => (pg_name (i := 1) sc__law_all_whole.nd rfl (Or.inl rfl))) (fun _ _ _ _ _ => pts_nil) (fun _ _ _ _ _ => (pe_and (pe_callB (r := rIsi K) call_isi (by rfl) B.b_isinstance (by decide +kernel) (pa_cons (pv 1) (pa_cons (pe_bltn (v := .ty "int") (by rfl) B.b_int (by decide +kernel) rfl) pa_nil))) (pe_one (pe_not (pe_callB (r := rIsi K) call_isi (by rfl) B.b_isinstance (by decide +kernel) (pa_cons (pv 1) (pa_cons (pe_bltn (v := .ty "bool") (by rfl) B.b_bool (by decide +kernel) rfl) pa_nil)))))))) pa_nil)))), ?_⟩
    refine s_ret (ev_is (ev_allN (bs := List.replicate ns.length true) (el_zipL (zs := trues ns.length true) (ev_var rfl) hs (by rw [trues_len, List.length_map]) (by rw [trues_len]; exact hl) (fun _ => rfl) fun k x z hx hz H1 e1 => ?_)) (by simp)) q
    rw [trues_at hz]
    obtain ⟨u, _, rfl⟩ := item_of hx
    exact (ev_andV (ev_cb (ea_cons (ev_var rfl) (ea_cons ev_c ea_nil)) rc_isi_int) (fun _ => (ev_notV (ev_cb (ea_cons (ev_var rfl) (ea_cons ev_c ea_nil)) rc_isi_bool))))
def sp__law_step (K : PySem.W.Frag) (mg : Str → Option Value) : Sp := sp3 (fun b l n => 2 ≤ b ∧ b ≤ 12 ∧ 1 ≤ l ∧ l ≤ 8) (fun b l n => .int (stepM b l.toNat n))
abbrev s__law_step : Stmt := topS 44
abbrev N__law_step : List Str := ["_law_base", "_law_length", "_law_number", "_law_figures", "_law_turn", "_law_up", "_law_down", "_law_low", "_law_high"]
theorem sc__law_step : FnScope N__law_step ["_law_base", "_law_length", "_law_number"] (defScope s__law_step) := ⟨rfl, rfl, rfl, by decide +kernel, rfl, by decide +kernel, by decide +kernel⟩
theorem ok__law_step {f : Addr} {fd : FuncData} (F : Fun K "_law_step" "_law_step" s__law_step f fd) (B : Bf K mg) : FnOk P w K mg base CX0 1 f fd ["_law_base", "_law_length", "_law_number"] (sp__law_step K mg) := by
  refine F.ok (k := 0) sc__law_step (fun vs H Q E h => ?_) (fun cdv A outer s H vs Q E hr h => ?_)
  · obtain ⟨a, b, c, rfl, _⟩ := h
    rfl
  · obtain ⟨b, l, n, rfl, ⟨h1, h2, h3, h4⟩, q⟩ := h
    have q : RetV (.int (stepM b l.toNat n)) H Q := q
    refine ⟨_, (pss_cons (ps_set (i := 3) sc__law_step.nd rfl (Or.inl rfl) (pe_lst pa_nil))
          (pss_cons (ps_for PassesOwn.never rfl (pi_range1 (by rfl) B.b_range (pa_cons (pv 1) pa_nil)) (pg_name (i := 4) sc__law_step.nd rfl (Or.inl rfl)) (pss_cons (ps_expr (pe_bm PySem.F.plainAttrs_list PySem.F.slot_list_append PySem.F.type_list_append mt_append (pv 3) (pa_cons (pe_op op_mod (pv 2) (pv 0)) pa_nil)))
          (pss_one (ps_set (i := 2) sc__law_step.nd rfl (Or.inl rfl) (pe_op op_fdiv (pv 2) (pv 0))))))
          (pss_cons (ps_asg (pe_tup (pa_cons pe_int (pa_cons pe_int pa_nil))) (pg_tup rfl (pgs_cons (pg_name (i := 5) sc__law_step.nd rfl (Or.inl rfl)) (pgs_cons (pg_name (i := 6) sc__law_step.nd rfl (Or.inl rfl)) pgs_nil))))
          (pss_cons (ps_for PassesOwn.never rfl (pi_zip (by rfl) B.b_zip (pa_cons (pe_callB cr_sortedI (by rfl) B.b_sorted (by decide +kernel) (pa_cons (pv 3) pa_nil)) (pa_cons (pe_revL (pe_callB cr_sortedI (by rfl) B.b_sorted (by decide +kernel) (pa_cons (pv 3) pa_nil))) pa_nil))) (pg_tup rfl (pgs_cons (pg_name (i := 7) sc__law_step.nd rfl (Or.inl rfl)) (pgs_cons (pg_name (i := 8) sc__law_step.nd rfl (Or.inl rfl)) pgs_nil))) (pss_one (ps_par (i := 5) (j := 6) (by rfl) sc__law_step.nd rfl rfl (by decide) rfl rfl (pa_cons (pe_op op_add (pe_op op_mul (pv 5) (pv 0)) (pv 7)) (pa_cons (pe_op op_add (pe_op op_mul (pv 6) (pv 0)) (pv 8)) pa_nil)) (by rfl))))
          (pss_one (ps_ret (pe_op op_sub (pv 6) (pv 5)))))))), ?_⟩
    refine q_asgL (el_lst ea_nil (by decide)) fun p H1 np e1 hp => ?_
    refine q_forR1 (ea_cons (ev_var rfl) ea_nil) (by omega) (fun i σ' H' => ∃ y, σ' = [some (.int b), some (.int l), some (.int (n / pw b i)), some (.ref p), y, none, none, none, none] ∧ Ex H H' ∧ H' p = some (.lst ((figs b i n).map V.int)))
      (fun H2 e2 => ⟨none, by rw [show n / pw b 0 = n from Int.ediv_one n] <;> rfl, e1.trans e2, e2 p _ hp⟩) ?_ ?_
    · rintro i σ' H' hi ⟨y, rfl, e, hp'⟩
      refine q_app hp' (ev_var rfl) (ev_op (ev_var rfl) (ev_var rfl) (rv_I (by first | decide | omega))) (by rw [List.length_map, figs_length]; omega) fun H2 e2 => ?_
      refine s_asg (ev_op (ev_var rfl) (ev_var rfl) (rv_I (by first | exact ⟨by decide, by decide⟩ | exact ⟨by omega, by omega⟩))) fun H3 e3 => ⟨_, by rw [div_pw (by omega)] <;> rfl, (ex_set e e2 np).trans e3, ?_⟩
      refine e3 p _ (upd_same.trans ?_)
      rw [figs_succ, List.map_append] <;> rfl
    · rintro σ' H' ⟨y, rfl, e, hp'⟩
      refine q_asgU2 (eu_tup (ea_cons ev_c (ea_cons ev_c ea_nil)) (by decide)) fun H2 e2 => ?_
      have hp2 := e2 p _ hp'
      obtain ⟨S, hS⟩ : ∃ S, S = srt (figs b l.toNat n) := ⟨_, rfl⟩
      have hSl : S.length = l.toNat := by rw [hS, srt_length, figs_length]
      have hq : stepM b l.toNat n = wr b S.reverse - wr b S := by rw [hS]; rfl
      rw [hq] at q
      refine q_forZip (xs := S.map V.int) (ys := S.reverse.map V.int) (by
          rw [hS, List.map_reverse]
          exact e2_nn (el_sorted (ev_var rfl) (sq_of hp2)) (el_revN (el_sorted (ev_var rfl) (sq_of hp2))))
        (fun k σ' => ∃ y4 y7 y8, σ' = [some (.int b), some (.int l), some (.int (n / pw b l.toNat)), some (.ref p), y4, some (.int (wr b (S.take k))), some (.int (wr b (S.reverse.take k))), y7, y8]) ⟨_, _, _, rfl⟩ ?_ ?_
      · rintro Hp ep k x y' σ' H3 hx hy e3 ⟨y4, y7, y8, rfl⟩
        obtain ⟨u, hu, rfl⟩ := item_of hx
        obtain ⟨w2, hw, rfl⟩ := item_of hy
        exact s_par (ea_cons (ev_op (ev_op (ev_var rfl) (ev_var rfl) (rv_I (by first | exact Or.inr ⟨by omega, by omega⟩ | exact Or.inl ⟨by omega, by omega⟩))) (ev_var rfl) rv_I0) (ea_cons (ev_op (ev_op (ev_var rfl) (ev_var rfl) (rv_I (by first | exact Or.inr ⟨by omega, by omega⟩ | exact Or.inl ⟨by omega, by omega⟩))) (ev_var rfl) rv_I0) ea_nil)) fun H4 e4 => ⟨e3.trans e4, _, _, _, by rw [wr_take hu, wr_take hw] <;> rfl⟩
      · rintro σ' H3 e3 ⟨y4, y7, y8, rfl⟩
        have hm : min (S.map V.int).length (S.reverse.map V.int).length = S.length := by simp
        rw [hm, List.take_length, List.take_of_length_le (by simp)]
        exact s_ret (ev_op (ev_var rfl) (ev_var rfl) rv_I0) fun H4 e4 => q H4 (((e.trans e2).trans e3).trans e4)
def sp__law_made (K : PySem.W.Frag) (mg : Str → Option Value) : Sp := fun vs H Q _ => ∃ (b l : Int), vs = [.int b, .int l] ∧ (2 ≤ b ∧ b ≤ 12 ∧ 1 ≤ l ∧ l ≤ 8) ∧ RetL (((falls b (l.toNat / 2)).map (mk b l.toNat)).map V.int) H Q
theorem sp_made_l {K : PySem.W.Frag} {mg : Str → Option Value} {b l : Int} {H : Hp} (h : 2 ≤ b ∧ b ≤ 12 ∧ 1 ≤ l ∧ l ≤ 8) : SpL (sp__law_made K mg) [.int b, .int l] H (((falls b (l.toNat / 2)).map (mk b l.toNat)).map V.int) :=
  fun _ _ _ q _ => ⟨b, l, rfl, h, q⟩
def prs (b : Int) (L : Nat) (ss : List (List Int)) : List (Int × Int) := ss.map fun s => (dot b L 0 s, topD b s)
theorem prs_G {b : Int} {L k : Nat} {s : List Int} (hs : s.length = k) : prs b L (fallG b s) = (List.range (topD b s + 1).toNat).map fun (far : Nat) => (dot b L 0 s + (far : Int) * wgt b L k, (far : Int)) := by
  unfold prs fallG
  rw [List.map_map]
  refine List.map_congr_left fun far _ => ?_
  show (dot b L 0 (s ++ [(far : Int)]), topD b (s ++ [(far : Int)])) = _
  rw [dot_snoc, Nat.zero_add, hs]
  unfold topD
  rw [List.getLast?_concat]
  rfl
abbrev s__law_made : Stmt := topS 45
abbrev N__law_made : List Str := ["_law_base", "_law_length", "_law_found", "_law_at", "_law_weight", "_law_longer", "_law_number", "_law_top", "_law_far"]
theorem sc__law_made : FnScope N__law_made ["_law_base", "_law_length"] (defScope s__law_made) := ⟨rfl, rfl, rfl, by decide +kernel, rfl, by decide +kernel, by decide +kernel⟩
theorem ok__law_made {f : Addr} {fd : FuncData} (F : Fun K "_law_made" "_law_made" s__law_made f fd) (B : Bf K mg) (c__law_many : Fn P w K mg base 1 "_law_many" ["_law_base", "_law_length"] (sp__law_many K mg)) : FnOk P w K mg base CX0 2 f fd ["_law_base", "_law_length"] (sp__law_made K mg) := by
  refine F.ok (k := 1) sc__law_made (fun vs H Q E h => ?_) (fun cdv A outer s H vs Q E hr h => ?_)
  · obtain ⟨b, l, rfl, _⟩ := h
    rfl
  · obtain ⟨b, l, rfl, ⟨h1, h2, h3, h4⟩, q⟩ := h
    refine ⟨_, (pss_cons (ps_set (i := 2) sc__law_made.nd rfl (Or.inl rfl) (pe_lst (pa_cons (pe_tup (pa_cons pe_int (pa_cons (pe_op op_sub (pv 0) pe_int) pa_nil))) pa_nil)))
          (pss_cons (ps_for PassesOwn.never rfl (pi_range1 (by rfl) B.b_range (pa_cons (pe_op op_fdiv (pv 1) pe_int) pa_nil)) (pg_name (i := 3) sc__law_made.nd rfl (Or.inl rfl)) (pss_cons (ps_asg (pe_tup (pa_cons (pe_op op_sub (pe_fn c__law_many (hr.mono (by decide)) (by rfl) (pa_cons (pv 0) (pa_cons (pe_op op_sub (pe_op op_sub (pv 1) pe_int) (pv 3)) pa_nil))) (pe_fn c__law_many (hr.mono (by decide)) (by rfl) (pa_cons (pv 0) (pa_cons (pv 3) pa_nil)))) (pa_cons (pe_lst pa_nil) pa_nil))) (pg_tup rfl (pgs_cons (pg_name (i := 4) sc__law_made.nd rfl (Or.inr rfl)) (pgs_cons (pg_name (i := 5) sc__law_made.nd rfl (Or.inl rfl)) pgs_nil))))
          (pss_cons (ps_for PassesOwn.never rfl (pi_list (pv 2)) (pg_tup rfl (pgs_cons (pg_name (i := 6) sc__law_made.nd rfl (Or.inr rfl)) (pgs_cons (pg_name (i := 7) sc__law_made.nd rfl (Or.inl rfl)) pgs_nil))) (pss_one (ps_expr (pe_bm PySem.F.plainAttrs_list PySem.F.slot_list_extend PySem.F.type_list_extend mt_extend (pv 5) (pa_cons (pe_lc (own := [("_law_far", 8)]) (g := (gName 8)) (by rfl) sc__law_made.nd (pi_range1 (by rfl) B.b_range (pa_cons (pe_op op_add (pv 7) pe_int) pa_nil)) (blkOk_by (own := [("_law_far", 8)]) (N := N__law_made) (sc := defScope s__law_made) (by decide +kernel)) (fun _ _ _ _ _ => (pg_name (i := 8) sc__law_made.nd rfl (Or.inl rfl))) (fun _ _ _ _ _ => pts_nil) (fun _ _ _ _ _ => (pe_tup (pa_cons (pe_op op_add (pv 6) (pe_op op_mul (pv 8) (pv 4))) (pa_cons (pv 8) pa_nil))))) pa_nil)))))
          (pss_one (ps_set (i := 2) sc__law_made.nd rfl (Or.inl rfl) (pv 5))))))
          (pss_one (ps_ret (pe_lc (own := [("_law_number", 6), ("_law_top", 7)]) (g := (gTup K 2 (gCons (gName 6) (gCons (gName 7) gNil)))) (by rfl) sc__law_made.nd (pi_list (pv 2)) (blkOk_by (own := [("_law_number", 6), ("_law_top", 7)]) (N := N__law_made) (sc := defScope s__law_made) (by decide +kernel)) (fun _ _ _ _ _ => (pg_tup rfl (pgs_cons (pg_name (i := 6) sc__law_made.nd rfl (Or.inl rfl)) (pgs_cons (pg_name (i := 7) sc__law_made.nd rfl (Or.inl rfl)) pgs_nil)))) (fun _ _ _ _ _ => pts_nil) (fun _ _ _ _ _ => (pv 6))))))), ?_⟩
    refine q_asgNp (enp_one (eu_tup (ea_cons ev_c (ea_cons (ev_op (ev_var rfl) ev_c rv_I0) ea_nil)) (Nat.le_of_ble_eq_true rfl))) fun p as H1 np e1 hN => ?_
    refine q_forR1 (ea_cons (ev_op (ev_var rfl) ev_c (rv_I (by first | exact ⟨by decide, by decide⟩ | exact ⟨by omega, by omega⟩))) ea_nil) (by omega) (fun i σ' H' => ∃ p as y3 y4 y5 y6 y7 y8, σ' = [some (.int b), some (.int l), some (.ref p), y3, y4, y5, y6, y7, y8] ∧ Ex H H' ∧ Nsp H H' p as (prs b l.toNat (falls b i)) ∧ H p = none)
      (fun H2 e2 => ⟨p, as, _, _, _, _, _, _, rfl, e1.trans e2, hN.ex e2, np⟩) ?_ ?_
    · rintro i σ' H2 hi ⟨p, as, y3, y4, y5, y6, y7, y8, rfl, e2, hN, np⟩
      have hwe : pw b (l - 1 - (i : Int)).toNat - pw b (i : Int).toNat = wgt b l.toNat i := by
        unfold wgt
        rw [show l.toNat - 1 - i = (l - 1 - (i : Int)).toNat by omega, Int.toNat_natCast]
      have hwp := wgt_pos (b := b) h1 (L := l.toNat) (a := i) (by omega)
      have hwl := wgt_le h1 h2 (L := l.toNat) (a := i) (by omega)
      refine q_tupVL (ev_op (ev_call (ea_cons (ev_var rfl) (ea_cons (ev_op (ev_op (ev_var rfl) ev_c rv_I0) (ev_var rfl) rv_I0) ea_nil)) (sp2_v (by first | exact ⟨by omega, by omega, by omega, by omega⟩ | omega))) (ev_call (ea_cons (ev_var rfl) (ea_cons (ev_var rfl) ea_nil)) (sp2_v (by first | exact ⟨by omega, by omega, by omega, by omega⟩ | omega))) rv_I0) fun pl H3 npl e3 hpl => ?_
      rw [hwe]
      refine q_forL (ev_var rfl) (sq_of (hN.ex e3).top) (fun k σ' H' => ∃ y6 y7, σ' = [some (.int b), some (.int l), some (.ref p), some (.int (i : Int)), some (.int (wgt b l.toNat i)), some (.ref pl), y6, y7, y8] ∧ Ex H2 H' ∧ ∃ bs, Nsp H2 H' pl bs (prs b l.toNat (((falls b i).take k).flatMap (fallG b))))
        (fun H4 e4 => ⟨_, _, rfl, e3.trans e4, [], e4 pl _ hpl, by simp, (fun _ h => nomatch h), rfl⟩) (fun k σ' H' _ ⟨_, _, _, e, _⟩ => sq_of (hN.ex e).top) ?_ ?_
      · rintro k x σ' H4 hk ⟨y6, y7, rfl, e4, bs, hB⟩
        rw [List.getElem?_map] at hk
        cases ea : as[k]? with
        | none =>
          rw [ea] at hk
          cases hk
        | some a =>
          rw [ea] at hk
          have ex : V.ref a = x := Option.some.inj hk
          subst ex
          obtain ⟨ps, es0, ha⟩ := (hN.ex e4).get ea
          unfold prs at es0
          rw [List.getElem?_map] at es0
          cases es : (falls b i)[k]? with
          | none =>
            rw [es] at es0
            cases es0
          | some s =>
            rw [es] at es0
            have ep : (dot b l.toNat 0 s, topD b s) = ps := Option.some.inj es0
            subst ep
            have hs := (falls_mem (b := b) (by omega)).mp (List.mem_of_getElem? es)
            have ht := topD_bound (b := b) (by omega) hs.2.2
            refine ⟨a, _, rfl, st_of ha, rfl, _, _, rfl, _, _, rfl, rfl, ?_⟩
            refine s_extNp hB.top (ev_var rfl) (enp_lcR1 (fun (far : Nat) => (dot b l.toNat 0 s + (far : Int) * wgt b l.toNat i, (far : Int))) (ea_cons (ev_op (ev_var rfl) ev_c rv_I0) ea_nil) ⟨by omega, by omega⟩ (fun _ => rfl) fun far H6 e6 hf => eu_tup (ea_cons (ev_op (ev_var rfl) (ev_op (ev_var rfl) (ev_var rfl) (rv_I (by first | exact Or.inr ⟨by omega, by omega⟩ | exact Or.inl ⟨by omega, by omega⟩))) rv_I0) (ea_cons (ev_var rfl) ea_nil)) (Nat.le_of_ble_eq_true rfl)) ?_ fun p6 as6 H6 np6 e6 hN6 => ?_
            · have g := fall_size h1 h2 (h := i) (by omega) (k + 1)
              rw [fall_take es, List.length_append] at g
              have g2 : (fallG b s).length = ((List.range (topD b s + 1).toNat).map fun (far : Nat) => (dot b l.toNat 0 s + (far : Int) * wgt b l.toNat i, (far : Int))).length := by
                unfold fallG
                rw [List.length_map, List.length_map]
              rw [List.length_map, hB.len, ← g2]
              unfold prs
              rw [List.length_map]
              exact Nat.le_trans g (by decide)
            · refine ⟨_, _, rfl, Ex.mut (e4.trans e6) npl, bs ++ as6, ?_⟩
              have hp9 : prs b l.toNat (((falls b i).take (k + 1)).flatMap (fallG b)) = prs b l.toNat (((falls b i).take k).flatMap (fallG b)) ++ ((List.range (topD b s + 1).toNat).map fun (far : Nat) => (dot b l.toNat 0 s + (far : Int) * wgt b l.toNat i, (far : Int))) := by
                rw [fall_take es, ← prs_G hs.1]
                unfold prs
                rw [List.map_append]
              rw [hp9]
              exact Nsp.extend hB e4 e6 hN6
      · rintro σ' H4 ⟨y6, y7, rfl, e4, bs, hB⟩
        have hlen : as.length = (falls b i).length := by
          rw [hN.len]
          unfold prs
          rw [List.length_map]
        rw [List.length_map, hlen, List.take_length] at hB
        exact s_asg (ev_var rfl) fun H5 e5 => ⟨pl, bs, _, _, _, _, _, _, rfl, (e2.trans e4).trans e5, (hB.ex e5).back e2, fresh_back e2 npl⟩
    · rintro σ' H2 ⟨p, as, y3, y4, y5, y6, y7, y8, rfl, e2, hN, np⟩
      have hL2 : (l / 2).toNat = l.toNat / 2 := by omega
      rw [hL2] at hN
      have hfl := falls_len h1 h2 (h := l.toNat / 2) (by omega)
      have hlen : as.length = (falls b (l.toNat / 2)).length := by
        rw [hN.len]
        unfold prs
        rw [List.length_map]
      refine s_retL (el_zipT2 (zs := ((falls b (l.toNat / 2)).map (mk b l.toNat)).map V.int) (ev_var rfl) (sq_of hN.top) (by rw [List.length_map, List.length_map, List.length_map, hlen]) (by rw [List.length_map, List.length_map]; omega) (fun _ _ => rfl) fun k x z hx hz => ?_) fun p3 H3 np3 e3 hp3 => q p3 H3 (fresh_back e2 np3) (e2.trans e3) hp3
      rw [List.getElem?_map] at hx
      cases ea : as[k]? with
      | none =>
        rw [ea] at hx
        cases hx
      | some a =>
        rw [ea] at hx
        have ex : V.ref a = x := Option.some.inj hx
        subst ex
        obtain ⟨ps, es0, ha⟩ := hN.get ea
        unfold prs at es0
        rw [List.getElem?_map] at es0
        cases es : (falls b (l.toNat / 2))[k]? with
        | none =>
          rw [es] at es0
          cases es0
        | some s =>
          rw [es] at es0
          have ep : (dot b l.toNat 0 s, topD b s) = ps := Option.some.inj es0
          subst ep
          have hs := (falls_mem (b := b) (by omega)).mp (List.mem_of_getElem? es)
          rw [List.getElem?_map, List.getElem?_map, es] at hz
          have ez : V.int (mk b l.toNat s) = z := Option.some.inj hz
          subst ez
          have hdk : dot b l.toNat 0 s = mk b l.toNat s := dot0 (by rw [hs.1]; omega)
          refine ⟨a, _, _, rfl, ha, fun H3 e3 => ?_⟩
          show Ev _ _ _ (.int (mk b l.toNat s))
          rw [← hdk]
          exact (ev_var rfl)
def sp__law_rounds (K : PySem.W.Frag) (mg : Str → Option Value) : Sp := fun vs H Q _ => ∃ (b l : Int) (rs : List Int), vs = [.int b, .int l] ∧ (2 ≤ b ∧ b ≤ 12 ∧ 1 ≤ l ∧ l ≤ 8) ∧ Lsts b l.toNat rs ∧
  ∀ p as H2, H p = none → Ex H H2 → Nst H H2 p as (rs.map (rnd (stepM b l.toNat))) → Q (.ref p) H2
theorem sp_lrounds_n {K : PySem.W.Frag} {mg : Str → Option Value} {b l : Int} {rs : List Int} {H : Hp} (hb : 2 ≤ b ∧ b ≤ 12 ∧ 1 ≤ l ∧ l ≤ 8) (hr : Lsts b l.toNat rs) : SpN (sp__law_rounds K mg) [.int b, .int l] H (rs.map (rnd (stepM b l.toNat))) :=
  fun _ _ _ q _ => ⟨b, l, rs, rfl, hb, hr, q⟩
theorem q_par3DLV {σ : L2.St} {H : Hp} {D : Ends} {tz : TS} {i j l : Nat} {x : V} (q : ∀ d p H1, H d = none → H p = none → p ≠ d → Ex H H1 → H1 d = some (.dK []) → H1 p = some (.lst []) → tz D (((σ.set i (some (.ref d))).set j (some (.ref p))).set l (some x)) H1) : tSeq (tPar3 i j l (tCons tDNewK (tCons (tLst tNil) (tCons (tC x) tNil)))) tz D σ H :=
  fun d hd => ⟨Nat.zero_le _, fun p hp => ⟨_, _, _, rfl, by
    have npd : p ≠ d := fun e => by
      rw [e, upd_same] at hp
      cases hp
    have hp0 : H p = none := by
      rw [upd_ne npd] at hp
      exact hp
    exact q d p _ hd hp0 npd ((Ex.new hd).trans (Ex.new hp)) (by rw [upd_ne npd.symm, upd_same]) upd_same⟩⟩
theorem q_par3VLV {σ : L2.St} {H : Hp} {D : Ends} {tz : TS} {ta tc : TE} {i j l : Nat} {x y : V} (h1 : Ev ta σ H x) (h2 : Ev tc σ H y) (q : ∀ p H1, H p = none → Ex H H1 → H1 p = some (.lst []) → tz D (((σ.set i (some x)).set j (some (.ref p))).set l (some y)) H1) : tSeq (tPar3 i j l (tCons ta (tCons (tLst tNil) (tCons tc tNil)))) tz D σ H :=
  h1 H (Ex.refl H) _ fun H1 e1 => ⟨Nat.zero_le _, fun p hp => h2 _ (e1.trans (Ex.new hp)) _ fun H2 e2 => ⟨_, _, _, rfl, q p H2 (fresh_back e1 hp) ((e1.trans (Ex.new hp)).trans e2) (e2 p _ upd_same)⟩⟩
theorem ep_sortedLL {K : PySem.W.Frag} {σ : L2.St} {H Hb : Hp} {ta : TE} {p : Addr} {as : List Addr} {xss : List (List Int)} (ha : Ev ta σ H (.ref p)) (hN : Nst Hb H p as xss) : EvP (tCB (rSortedLL K) (tCons ta tNil)) σ H fun v H2 => ∃ p2, v = .ref p2 ∧ H p2 = none ∧ H2 p2 = some (.lst (((as.zip xss).mergeSort leR).map fun b => V.ref b.1)) :=
  fun H1 e Q q => ha H1 e _ fun H2 e2 => ⟨p, as, xss, rfl, sq_of ((hN.ex (e.trans e2)).top), (hN.ex (e.trans e2)).all, fun p2 hp2 => q _ _ (e2.trans (Ex.new hp2)) ⟨p2, rfl, fresh_back (e.trans e2) hp2, upd_same⟩⟩
theorem nst_snoc {H0 H H2 : Hp} {l p : Addr} {as : List Addr} {xss : List (List Int)} {ns : List Int} (h : Nst H0 H l as xss) (e0 : Ex H0 H) (e : Ex H H2) (np : H p = none) (hp : H2 p = some (.lst (ns.map V.int))) : Nst H0 (upd H2 l (.lst (as.map V.ref ++ [.ref p]))) l (as ++ [p]) (xss ++ [ns]) := by
  have n1 := List.nodup_cons.mp h.nd
  have lp : p ≠ l := fun q => by
    rw [q, h.top] at np
    cases np
  have pas : p ∉ as := fun q => by
    obtain ⟨x, _, h2⟩ := h.mem q
    rw [h2] at np
    cases np
  have hl : ∀ a ∈ as ++ [p], upd H2 l (.lst (as.map V.ref ++ [.ref p])) a = H2 a := fun a ha => by
    refine upd_ne fun q => ?_
    rw [q] at ha
    rcases List.mem_append.mp ha with q | q
    · exact n1.1 q
    · exact lp (List.mem_singleton.mp q).symm
  refine ⟨by rw [upd_same, List.map_append]; rfl, List.nodup_cons.mpr ⟨fun q => ?_, ?_⟩, fun a ha => ?_, ?_⟩
  · rcases List.mem_append.mp q with q | q
    · exact n1.1 q
    · exact lp (List.mem_singleton.mp q).symm
  · rw [List.nodup_append]
    refine ⟨n1.2, by simp, fun a ha b hb q => ?_⟩
    have : b = p := by simpa using hb
    rw [this] at q
    rw [q] at ha
    exact pas ha
  · rcases List.mem_append.mp ha with q | q
    · exact h.new a q
    · have : a = p := by simpa using q
      rw [this]
      exact fresh_back e0 np
  · rw [List.map_congr_left hl, List.map_append, List.map_append, map_ex e h.all]
    simp [hp]
theorem nst_exB {H0 H H2 : Hp} {d l : Addr} {as : List Addr} {xss : List (List Int)} (h : Nst H0 H l as xss) (e : ExB d H H2) (n1 : l ≠ d) (n2 : d ∉ as) : Nst H0 H2 l as xss := by
  refine ⟨e l _ n1 h.top, h.nd, h.new, ?_⟩
  rw [← h.all]
  refine List.map_congr_left fun a ha => ?_
  obtain ⟨ns, _, h9⟩ := h.mem ha
  rw [h9]
  exact e a _ (fun q => n2 (q ▸ ha)) h9
abbrev s__law_rounds : Stmt := topS 46
abbrev N__law_rounds : List Str := ["_law_base", "_law_length", "_law_when", "_law_found", "_law_turn", "_law_number", "_law_here", "_law_line", "_law_ring", "_law_first"]
theorem sc__law_rounds : FnScope N__law_rounds ["_law_base", "_law_length"] (defScope s__law_rounds) := ⟨rfl, rfl, rfl, by decide +kernel, rfl, by decide +kernel, by decide +kernel⟩
theorem ok__law_rounds {f : Addr} {fd : FuncData} (F : Fun K "_law_rounds" "_law_rounds" s__law_rounds f fd) (B : Bf K mg) (c__law_made : Fn P w K mg base 2 "_law_made" ["_law_base", "_law_length"] (sp__law_made K mg)) (c__law_step : Fn P w K mg base 1 "_law_step" ["_law_base", "_law_length", "_law_number"] (sp__law_step K mg)) : FnOk P w K mg base CX0 3 f fd ["_law_base", "_law_length"] (sp__law_rounds K mg) := by
  refine F.ok (k := 2) sc__law_rounds (fun vs H Q E h => ?_) (fun cdv A outer s H vs Q E hr h => ?_)
  · obtain ⟨b, l, rs, rfl, _⟩ := h
    rfl
  · obtain ⟨b, l, rs, rfl, hbl, hrs, q⟩ := h
    have hbl' := hbl
    obtain ⟨h1, h2, h3, h4⟩ := hbl
    refine ⟨_, (pss_cons (ps_par3 (i := 2) (j := 3) (l := 4) (by rfl) sc__law_rounds.nd rfl rfl rfl (by decide) (by decide) (by decide) rfl rfl rfl (pa_cons pe_dnewK (pa_cons (pe_lst pa_nil) (pa_cons pe_int pa_nil))) (by rfl))
          (pss_cons (ps_for PassesOwn.never rfl (pi_list (pe_fn c__law_made (hr.mono (by decide)) (by rfl) (pa_cons (pv 0) (pa_cons (pv 1) pa_nil)))) (pg_name (i := 5) sc__law_rounds.nd rfl (Or.inl rfl)) (pss_cons (ps_par3 (i := 6) (j := 7) (l := 4) (by rfl) sc__law_rounds.nd rfl rfl rfl (by decide) (by decide) (by decide) rfl rfl rfl (pa_cons (pv 5) (pa_cons (pe_lst pa_nil) (pa_cons (pe_op op_add (pv 4) pe_int) pa_nil))) (by rfl))
          (pss_cons (ps_while PassesOwn.never (pt_cmp (pc_dnotin (hu_of hr) (pv 6) (pv 2))) (pss_cons (ps_dput (hu_of hr) (pv 2) (pv 6) (pv 4) rfl)
          (pss_cons (ps_expr (pe_bm PySem.F.plainAttrs_list PySem.F.slot_list_append PySem.F.type_list_append mt_append (pv 7) (pa_cons (pv 6) pa_nil)))
          (pss_one (ps_set (i := 6) sc__law_rounds.nd rfl (Or.inl rfl) (pe_fn c__law_step (hr.mono (by decide)) (by rfl) (pa_cons (pv 0) (pa_cons (pv 1) (pa_cons (pv 6) pa_nil)))))))))
          (pss_one (ps_if (pt_cmpR op_eq (pe_dget (hu_of hr) (pv 2) (pv 6) (fun _ _ => rfl)) (pv 4) (nomark _)) (pss_cons (ps_set (i := 8) sc__law_rounds.nd rfl (Or.inl rfl) (pe_slice sl_list (pv 7) (po_some (pe_bm PySem.F.plainAttrs_list PySem.F.slot_list_index PySem.F.type_list_index mt_index (pv 7) (pa_cons (pv 6) pa_nil))) po_none))
          (pss_cons (ps_set (i := 9) sc__law_rounds.nd rfl (Or.inl rfl) (pe_bm PySem.F.plainAttrs_list PySem.F.slot_list_index PySem.F.type_list_index mt_index (pv 8) (pa_cons (pe_callB (cr_min rfl) (by rfl) B.b_min (by decide +kernel) (pa_cons (pv 8) pa_nil)) pa_nil)))
          (pss_one (ps_expr (pe_bm PySem.F.plainAttrs_list PySem.F.slot_list_append PySem.F.type_list_append mt_append (pv 3) (pa_cons (pe_op op_cat (pe_slice sl_list (pv 8) (po_some (pv 9)) po_none) (pe_slice sl_list (pv 8) po_none (po_some (pv 9)))) pa_nil)))))) pss_nil)))))
          (pss_one (ps_ret (pe_callB (cr_sortedLL hr.units) (by rfl) B.b_sorted (by decide +kernel) (pa_cons (pv 3) pa_nil)))))), ?_⟩
    have hSl := imgs_len (b := b) (by omega) h2 (L := l.toNat) (by omega)
    have hst : ∀ x, stepM b l.toNat x ∈ imgs b l.toNat := fun x => step_imgs (by omega) _ x
    have hcr : ∀ r, IsLst (stepM b l.toNat) r r → hd0 (rnd (stepM b l.toNat) r) = r ∧ rnd (stepM b l.toNat) r ≠ [] := fun r hr2 => by
      obtain ⟨m, c, hC⟩ := course_ex hst r
      have hc := hr2.course hC
      subst hc
      obtain ⟨t, ht⟩ := orb_cons (f := stepM b l.toNat) (n := r) hC.lt
      rw [rnd_eq hC, ht]
      exact ⟨rfl, by simp⟩
    have hap : ∀ n m, Apart (stepM b l.toNat) n m → m ≤ 20737 := fun n m h => apart_le hbl' h
    have hnodes : ∀ n ∈ (falls b (l.toNat / 2)).map (mk b l.toNat), n ∈ imgs b l.toNat := fun n hn => by
      obtain ⟨s, hs, rfl⟩ := List.mem_map.mp hn
      exact mk_img h1 hs
    have hLs : ∀ fs, LsM (stepM b l.toNat) (fun n => n) ((falls b (l.toNat / 2)).map (mk b l.toNat)) fs → srt fs = rs := fun fs hfs => by
      refine (Lsts.of h1 (ls := fs) ⟨hfs.nd, fun r => ?_⟩).one hrs
      rw [hfs.mem]
      constructor
      · rintro ⟨n, hn, hq⟩
        obtain ⟨s, hs, rfl⟩ := List.mem_map.mp hn
        exact ⟨s, hs, hq⟩
      · rintro ⟨s, hs, hq⟩
        exact ⟨_, List.mem_map.mpr ⟨s, hs, rfl⟩, hq⟩
    have hnl : ((falls b (l.toNat / 2)).map (mk b l.toNat)).length ≤ 20736 := by
      rw [List.length_map]
      exact falls_len h1 h2 (by omega)
    generalize hnd0 : (falls b (l.toNat / 2)).map (mk b l.toNat) = nodes at hnodes hLs hnl
    obtain ⟨f, hf⟩ : ∃ f, f = stepM b l.toNat := ⟨_, rfl⟩
    rw [← hf] at q hst hcr hap hLs
    generalize imgs b l.toNat = S at hSl hst hnodes
    refine q_par3DLV fun d pf H1 nd npf npd e1 hd hpf => ?_
    refine q_forNLn (xs := nodes.map V.int) (el_is (el_call (ea_cons (ev_var rfl) (ea_cons (ev_var rfl) ea_nil)) (sp_made_l hbl')) (by rw [hnd0]))
      (fun p k σ' H' => ∃ y5 y6 y7 y8 y9 kvs ks as fs, σ' = [some (.int b), some (.int l), some (.ref d), some (.ref pf), some (.int (k : Int)), y5, y6, y7, y8, y9] ∧ H1 p = none ∧ Ex H H' ∧ H' p = some (.lst (nodes.map V.int)) ∧ H' d = some (.dK kvs) ∧ KI kvs ks ∧ (∀ x ∈ ks, x ∈ S ∧ f x ∈ ks ∧ ∃ r ∈ fs, IsLst f x r) ∧ (∀ x v, valV kvs (.inl x) = some v → ∃ t : Int, v = .int t ∧ t ≤ (k : Int)) ∧ Nst H H' pf as (fs.map (rnd f)) ∧ LsM f (fun n => n) (nodes.take k) fs ∧ (∀ r ∈ fs, r ∈ ks))
      (fun p H2 np e2 hp => ⟨_, _, _, _, _, [], [], [], [], rfl, np, e1.trans e2, hp, e2 d _ hd, KI.nil, (fun _ h => nomatch h), (fun _ _ h => nomatch h), ⟨e2 pf _ hpf, by simp, (fun _ h => nomatch h), rfl⟩, by rw [List.take_zero]; exact LsM.nil, (fun _ h => nomatch h)⟩)
      (fun p k σ' H' _ ⟨_, _, _, _, _, _, _, _, _, _, _, _, h, _⟩ => sq_of h) ?_ ?_
    · rintro p k x σ' H2 hk ⟨y5, y6, y7, y8, y9, kvs, ks, as, fs, rfl, np, e2, hp2, hd2, hK, hcl, hvl, hN, hM, hfk⟩
      obtain ⟨n, hnk, rfl⟩ := item_of hk
      have hnS := hnodes n (List.mem_of_getElem? hnk)
      have hpd : p ≠ d := fun e => by
        rw [e, hd] at np
        cases np
      have hda : d ∉ as := fun h9 => by
        obtain ⟨ns, _, h10⟩ := hN.mem h9
        rw [hd2] at h10
        cases h10
      refine q_par3VLV (ev_var rfl) (ev_op (ev_var rfl) ev_c rv_I0) fun pl H3 npl e3 hpl => ?_
      have hpld : pl ≠ d := fun e => by
        rw [e, hd2] at npl
        cases npl
      refine q_while (fun m σ' H' => ∃ (i : Nat) (kv2 : List (Key × V)), m = 20738 - i ∧ Apart f n i ∧ σ' = [some (.int b), some (.int l), some (.ref d), some (.ref pf), some (.int ((k : Int) + 1)), some (.int n), some (.int (it f i n)), some (.ref pl), y8, y9] ∧ ExB d H2 H' ∧ H' pl = some (.lst ((orb f n i).map V.int)) ∧ H' d = some (.dK kv2) ∧ KI kv2 (ks ++ orb f n i) ∧ (∀ x, valV kv2 (.inl x) = if x ∈ orb f n i then some (.int ((k : Int) + 1)) else valV kvs (.inl x)))
        20738 ⟨0, kvs, rfl, Apart.zero f n, rfl, Ex.exB e3, hpl, e3 d _ hd2, by simpa [orb] using hK, fun x => by simp [orb]⟩ ?_
      rintro m σ' H4 ⟨i, kv2, rfl, hA, rfl, e4, hpl4, hd4, hK4, hV4⟩
      have hi := hap n i hA
      refine ⟨_, et_B (ev_dnotin (ev_var rfl) (ev_var rfl) hd4), fun hb H5 e5 => ?_, fun hb H5 e5 => ?_⟩
      · have hno : valV kv2 (.inl (it f i n)) = none := by
          cases e : valV kv2 (.inl (it f i n)) with
          | none => rfl
          | some v =>
            rw [e] at hb
            cases hb
        have hni := (hK4.none_iff _).mp hno
        have hA2 : Apart f n (i + 1) := hA.succ fun c hc e => hni (List.mem_append_right _ (mem_orb.mpr ⟨c, hc, e.symm⟩))
        have hi2 := hap n _ hA2
        have hkS : kv2.length < 100000 := by
          have g := hK4.nd.length_le_of_subset (l₂ := S) fun x hx => by
            rcases List.mem_append.mp hx with h9 | h9
            · exact (hcl x h9).1
            · obtain ⟨j, _, rfl⟩ := mem_orb.mp h9
              cases j with
              | zero => exact hnS
              | succ j => exact hst _
          rw [hK4.len]
          omega
        refine ⟨fun σ2 H' => ∃ kv3, σ2 = [some (.int b), some (.int l), some (.ref d), some (.ref pf), some (.int ((k : Int) + 1)), some (.int n), some (.int (it f (i + 1) n)), some (.ref pl), y8, y9] ∧ ExB d H2 H' ∧ H' pl = some (.lst ((orb f n (i + 1)).map V.int)) ∧ H' d = some (.dK kv3) ∧ KI kv3 (ks ++ orb f n (i + 1)) ∧ (∀ x, valV kv3 (.inl x) = if x ∈ orb f n (i + 1) then some (.int ((k : Int) + 1)) else valV kvs (.inl x)),
          fun σ2 H' ⟨kv3, a1, a2, a3, a4, a5, a6⟩ => ⟨20738 - (i + 1), by omega, i + 1, kv3, rfl, hA2, a1, a2, a3, a4, a5, a6⟩, ?_⟩
        refine q_dput (ev_var rfl) (ev_var rfl) (ev_var rfl) (e5 d _ hd4) hkS fun H6 e6 => ?_
        have hpl6 : (upd H6 d (.dK (putK kv2 (.inl (it f i n)) (.int ((k : Int) + 1))))) pl = some (.lst ((orb f n i).map V.int)) := by
          rw [upd_ne hpld]
          exact e6 pl _ (e5 pl _ hpl4)
        refine q_app hpl6 (ev_var rfl) (ev_var rfl) (by rw [List.length_map, orb_len]; omega) fun H7 e7 => ?_
        refine s_asg (ev_call (ea_cons (ev_var rfl) (ea_cons (ev_var rfl) (ea_cons (ev_var rfl) ea_nil))) (sp3_v (by first | assumption | omega))) fun H8 e8 => ⟨putK kv2 (.inl (it f i n)) (.int ((k : Int) + 1)), by rw [hf] <;> rfl, ?_, ?_, ?_, ?_, fun x => ?_⟩
        · have g1 : ExB d H2 (upd H6 d (.dK (putK kv2 (.inl (it f i n)) (.int ((k : Int) + 1))))) := ((e4.ex e5).ex e6).upd
          have g2 : ExB d H2 H7 := g1.ex e7
          exact ExB.ex (fun a o na h9 => by
            rw [upd_ne (ne_of_none h9 npl)]
            exact g2 a o na h9) e8
        · refine e8 pl _ (upd_same.trans ?_)
          rw [orb_succ, List.map_append] <;> rfl
        · refine e8 d _ ?_
          rw [upd_ne hpld.symm]
          exact e7 d _ upd_same
        · have g := hK4.put (it f i n) (.int ((k : Int) + 1))
          rw [if_neg hni, List.append_assoc, ← orb_succ] at g
          exact g
        · rw [valV_putI, hV4, orb_succ]
          by_cases hx : x = it f i n
          · rw [if_pos hx, if_pos (by simp [hx])]
          · rw [if_neg hx]
            by_cases hx2 : x ∈ orb f n i
            · rw [if_pos hx2, if_pos (by simp [hx2])]
            · rw [if_neg hx2, if_neg (by simp [hx, hx2])]
      · -- it came to what was seen
        have hsome : (valV kv2 (.inl (it f i n))).isSome = true := by
          cases e : valV kv2 (.inl (it f i n)) with
          | none =>
            rw [e] at hb
            cases hb
          | some v => rfl
        have hin := (hK4.some_iff _).mp hsome
        have hd5 := e5 d _ hd4
        have hpl5 := e5 pl _ hpl4
        have e5B : ExB d H2 H5 := e4.ex e5
        have eH : Ex H H5 := e5B.base e2 nd
        have hN5 : Nst H H5 pf as (fs.map (rnd f)) := nst_exB hN e5B npd hda
        have hp5 : H5 p = some (.lst (nodes.map V.int)) := e5B p _ hpd hp2
        have hdis : ∀ x, x ∈ ks → x ∈ orb f n i → False := fun x h9 h10 => (List.nodup_append.mp hK4.nd).2.2 x h9 x h10 rfl
        have hvl5 : ∀ x v, valV kv2 (.inl x) = some v → ∃ t : Int, v = .int t ∧ t ≤ ((k + 1 : Nat) : Int) := fun x v h9 => by
          rw [hV4] at h9
          split at h9
          · exact ⟨_, (Option.some.inj h9).symm, by omega⟩
          · obtain ⟨t, e9, h10⟩ := hvl x v h9
            exact ⟨t, e9, by omega⟩
        by_cases hor : it f i n ∈ orb f n i
        · obtain ⟨c, hc, ec⟩ := mem_orb.mp hor
          have hC : Course f n i c := ⟨hc, ec.symm, hA⟩
          have hlst := hC.lst
          have hv : valV kv2 (.inl (it f i n)) = some (.int ((k : Int) + 1)) := by rw [hV4, if_pos hor]
          refine s_when (et_is (b := true) (et_test (ev_op (ev_dget (ev_var rfl) (ev_var rfl) hd5 hv) (ev_var rfl) (rv_eq rfl))) (by simp)) (fun _ H6 e6 => ?_) (fun z => nomatch z)
          have hpl6 := e6 pl _ hpl5
          refine q_asgL (el_is (el_sl (ev_var rfl) (eo_some (ev_index (j := c) (ev_var rfl) (sq_of hpl6) (ev_var rfl) (by rw [orb_get hc, ec]) (fun j k hj ek => by rw [← ec]; exact orb_first hA hc j k hj ek))) eo_none (sq_of hpl6)) (ring_cut (by omega))) fun pr H7 npr e7 hpr => ?_
          obtain ⟨j, hj, hjf⟩ := first_at (lmin_mem (List.ne_nil_of_length_pos (ring_pos (f := f) (n := n) hc))) (ring_nodup hC)
          have hjl := (List.getElem?_eq_some_iff.mp hj).1
          refine q_asg (ev_index (j := j) (ev_var rfl) (sq_of hpr) (ev_min (ev_var rfl) (sq_of hpr) (ring_pos hc)) hj hjf) fun H8 e8 => ?_
          have hpr8 := e8 pr _ hpr
          have hrl : (ring f n i c).length ≤ 20737 := by
            unfold ring
            rw [List.length_drop, orb_len]
            omega
          have hN8 := (hN5.ex e6).ex (e7.trans e8)
          have hasl : as.length ≤ 20736 := by
            have g := hM.sub hst
            rw [hN.len, List.length_map]
            omega
          refine s_appL hN8.top (ev_var rfl) (el_is (ys := (rnd f (lmin (ring f n i c))).map V.int) (el_catNN (el_is (el_sl (ev_var rfl) (eo_some (ev_var rfl)) eo_none (sq_of hpr8)) (cut_drop (by rw [List.length_map]; omega))) (el_is (el_sl (ev_var rfl) eo_none (eo_some (ev_var rfl)) (sq_of hpr8)) (cut_take (by rw [List.length_map]; omega))) (by simp; omega)) (by rw [← List.map_drop, ← List.map_take, ← List.map_append, rot_ring hC hj])) (by rw [List.length_map]; omega) fun pn H9 npn e9 hpn => ?_
          have E9 : Ex H H9 := ((eH.trans e6).trans (e7.trans e8)).trans e9
          -- a new round
          have hnew : lmin (ring f n i c) ∉ fs := fun h9 => by
            have hrk := hfk _ h9
            have hall : ∀ j, it f j (lmin (ring f n i c)) ∈ ks := fun j => by
              induction j with
              | zero => exact hrk
              | succ j ih => exact (hcl _ ih).2.1
            obtain ⟨k0, hk0⟩ := hlst.come
            obtain ⟨pq, hpq, hbq⟩ := hlst.back
            -- it f c n comes of the least one
            obtain ⟨u, hu⟩ : ∃ u, it f u (it f c n) = lmin (ring f n i c) := by
              have hm := lmin_mem (List.ne_nil_of_length_pos (ring_pos (f := f) (n := n) hc))
              rw [ring_eq] at hm
              obtain ⟨u, _, e⟩ := mem_orb.mp hm
              rw [← ring_eq] at e
              exact ⟨u, e⟩
            have hper : it f (i - c) (it f c n) = it f c n := by
              rw [← it_add, show c + (i - c) = i by omega]
              exact hC.back
            obtain ⟨v, hv2⟩ := back_of (show 0 < i - c by omega) hper u
            rw [hu] at hv2
            have := hall v
            rw [hv2] at this
            exact hdis _ this (mem_orb.mpr ⟨c, hc, rfl⟩)
          have hM2 := hM.add (s := n) hlst
          rw [if_neg hnew, ← wd hnk] at hM2
          refine ⟨_, _, _, _, _, kv2, ks ++ orb f n i, as ++ [pn], fs ++ [lmin (ring f n i c)], rfl, np, Ex.mut E9 npf, ?_, ?_, hK4, fun x hx => ?_, hvl5, ?_, hM2, fun r hr9 => ?_⟩
          · rw [upd_ne fun e => by rw [e, hpf] at np; cases np]
            exact e9 p _ (e8 p _ (e7 p _ (e6 p _ hp5)))
          · rw [upd_ne npd.symm]
            exact e9 d _ (e8 d _ (e7 d _ (e6 d _ hd5)))
          · rcases List.mem_append.mp hx with h9 | h9
            · obtain ⟨g1, g2, r, g3, g4⟩ := hcl x h9
              exact ⟨g1, List.mem_append_left _ g2, r, List.mem_append_left _ g3, g4⟩
            · obtain ⟨j2, hj2, rfl⟩ := mem_orb.mp h9
              refine ⟨?_, ?_, _, List.mem_append_right _ (List.mem_singleton.mpr rfl), hlst.downs j2⟩
              · cases j2 with
                | zero => exact hnS
                | succ j2 => exact hst _
              · by_cases h10 : j2 + 1 < i
                · exact List.mem_append_right _ (mem_orb.mpr ⟨j2 + 1, h10, rfl⟩)
                · have e10 : j2 + 1 = i := by omega
                  have e11 : f (it f j2 n) = it f i n := by rw [← e10]; rfl
                  rw [e11]
                  exact List.mem_append_right _ hor
          · rw [List.map_append]
            exact nst_snoc hN8 ((eH.trans e6).trans (e7.trans e8)) e9 npn hpn
          · rcases List.mem_append.mp hr9 with h9 | h9
            · exact List.mem_append_left _ (hfk r h9)
            · rw [List.mem_singleton.mp h9]
              refine List.mem_append_right _ ?_
              have hm := lmin_mem (List.ne_nil_of_length_pos (ring_pos (f := f) (n := n) hc))
              unfold ring at hm
              exact List.mem_of_mem_drop hm
        · -- to an earlier one
          have hks : it f i n ∈ ks := by
            rcases List.mem_append.mp hin with h9 | h9
            · exact h9
            · exact absurd h9 hor
          obtain ⟨_, _, r, hrf, hrl⟩ := hcl _ hks
          obtain ⟨v, hv⟩ : ∃ v, valV kv2 (.inl (it f i n)) = some v := by
            cases e : valV kv2 (.inl (it f i n)) with
            | none =>
              rw [e] at hsome
              cases hsome
            | some v => exact ⟨v, rfl⟩
          have hv0 := hv
          rw [hV4, if_neg hor] at hv0
          obtain ⟨t, rfl, htk⟩ := hvl _ _ hv0
          have hM2 := hM.add (s := n) (hrl.ups)
          rw [if_pos hrf, ← wd hnk] at hM2
          refine s_when (et_is (b := false) (et_test (ev_op (ev_dget (ev_var rfl) (ev_var rfl) hd5 hv) (ev_var rfl) (rv_eq rfl))) (by simp; omega)) (fun z => nomatch z) (fun _ H6 e6 => ?_)
          refine ⟨_, _, _, _, _, kv2, ks ++ orb f n i, as, fs, rfl, np, eH.trans e6, e6 p _ hp5, e6 d _ hd5, hK4, fun x hx => ?_, hvl5, hN5.ex e6, hM2, fun r hr9 => List.mem_append_left _ (hfk r hr9)⟩
          rcases List.mem_append.mp hx with h9 | h9
          · obtain ⟨g1, g2, r2, g3, g4⟩ := hcl x h9
            exact ⟨g1, List.mem_append_left _ g2, r2, g3, g4⟩
          · obtain ⟨j2, hj2, rfl⟩ := mem_orb.mp h9
            refine ⟨?_, ?_, r, hrf, (hrl.ups).downs j2⟩
            · cases j2 with
              | zero => exact hnS
              | succ j2 => exact hst _
            · by_cases h10 : j2 + 1 < i
              · exact List.mem_append_right _ (mem_orb.mpr ⟨j2 + 1, h10, rfl⟩)
              · have e10 : j2 + 1 = i := by omega
                have e11 : f (it f j2 n) = it f i n := by rw [← e10]; rfl
                rw [e11]
                exact List.mem_append_left _ hks
    · rintro p σ' H2 ⟨y5, y6, y7, y8, y9, kvs, ks, as, fs, rfl, np, e2, hp2, hd2, hK, hcl, hvl, hN, hM, hfk⟩
      rw [List.length_map, List.take_length] at hM
      have hsr := hLs fs hM
      refine s_retP (ep_sortedLL (ev_var rfl) hN) fun v H3 e3 hR => ?_
      obtain ⟨p3, rfl, np3, hp3⟩ := hR
      have hN3 := hN.ex e3
      have hlen : as.length = (fs.map (rnd f)).length := hN.len
      have hzs : (as.zip (fs.map (rnd f))).map (·.2) = fs.map (rnd f) := List.map_snd_zip (by omega)
      have hzf : (as.zip (fs.map (rnd f))).map (·.1) = as := List.map_fst_zip (by omega)
      have hsort := sort_rings (f := f) (fs := fs) (zs := as.zip (fs.map (rnd f))) hzs (fun r hr9 => by
        obtain ⟨n, _, hq⟩ := (hM.mem r).mp hr9
        exact hcr r hq.self)
      obtain ⟨bs, hbs⟩ : ∃ bs, bs = (as.zip (fs.map (rnd f))).mergeSort leR := ⟨_, rfl⟩
      have hperm : bs.Perm (as.zip (fs.map (rnd f))) := by rw [hbs]; exact List.mergeSort_perm _ _
      have hsort2 : bs.map (·.2) = rs.map (rnd f) := by
        rw [hbs, ← hsr]
        exact hsort
      rw [← hbs] at hp3
      have hpas : (bs.map (·.1)).Perm as := by
        have g := hperm.map (fun b : Addr × List Int => b.1)
        rw [hzf] at g
        exact g
      have hmem : ∀ b ∈ bs, H3 b.1 = some (.lst (b.2.map V.int)) := fun b hb => by
        have h9 := hperm.mem_iff.mp hb
        obtain ⟨j, hj⟩ := List.getElem?_of_mem h9
        rw [List.getElem?_zip_eq_some] at hj
        obtain ⟨ns, g1, g2⟩ := hN3.get hj.1
        rw [hj.2] at g1
        rw [Option.some.inj g1]
        exact g2
      refine q p3 (bs.map (·.1)) H3 (fresh_back e2 np3) (e2.trans e3) ⟨?_, List.nodup_cons.mpr ⟨fun h9 => ?_, ?_⟩, fun a ha => ?_, ?_⟩
      · rw [hp3, List.map_map]
        rfl
      · have h10 := hpas.mem_iff.mp h9
        obtain ⟨ns, _, h11⟩ := hN.mem h10
        rw [h11] at np3
        cases np3
      · exact hpas.nodup_iff.mpr (List.nodup_cons.mp hN.nd).2
      · exact hN.new a (hpas.mem_iff.mp ha)
      · rw [← hsort2, List.map_map, List.map_map]
        exact List.map_congr_left fun b hb => hmem b hb
def sp__law_all_right (K : PySem.W.Frag) (mg : Str → Option Value) : Sp := fun vs H Q _ => ∃ (b l : Int) (rs : List Int) (pd : Addr) (ad : List Addr) (Hb : Hp), vs = [.int b, .int l, .ref pd] ∧ (2 ≤ b ∧ b ≤ 12 ∧ 1 ≤ l ∧ l ≤ 8) ∧ Lsts b l.toNat rs ∧ Nst Hb H pd ad (rs.map (rnd (stepM b l.toNat))) ∧ RetV (.bl true) H Q
theorem q_pop {K : PySem.W.Frag} {σ : L2.St} {H : Hp} {D : Ends} {ta : TE} {tz : TS} {l : Addr} {xs : List V} (hl : H l = some (.lst xs)) (hn : xs ≠ []) (ha : Ev ta σ H (.ref l)) (k : ∀ H1, Ex H H1 → tz D σ (upd H1 l (.lst xs.dropLast))) : tSeq (tDrop (tBM0 K "list" rPop ta)) tz D σ H :=
  ha H (Ex.refl H) _ fun H1 e1 => ⟨Or.inl ⟨rfl, xs, sq_of (e1 l _ hl)⟩, l, xs, xs[xs.length - 1]'(by
    have := List.length_pos_iff.mpr hn
    omega), rfl, rfl, e1 l _ hl, List.getElem?_eq_getElem _, k H1 e1⟩
theorem rs_info2 {b l : Int} (h : 2 ≤ b ∧ b ≤ 12 ∧ 1 ≤ l ∧ l ≤ 8) {rs : List Int} (hrs : Lsts b l.toNat rs) {r : Int} (hr : r ∈ rs) : ∃ m, 0 < m ∧ m ≤ 20737 ∧ Course (stepM b l.toNat) r m 0 ∧ rnd (stepM b l.toNat) r = orb (stepM b l.toNat) r m ∧ IsLst (stepM b l.toNat) r r := by
  have hs := hrs.self hr
  obtain ⟨m, c, hC⟩ := course_ex (S := imgs b l.toNat) (fun x => step_imgs (by omega) _ x) r
  have hc := hs.course hC
  subst hc
  exact ⟨m, hC.lt, apart_le h hC.apart, hC, rnd_eq hC, hs⟩
theorem rs_len2 {b l : Int} (h : 2 ≤ b ∧ b ≤ 12 ∧ 1 ≤ l ∧ l ≤ 8) {rs : List Int} (hrs : Lsts b l.toNat rs) : rs.length ≤ 20736 := by
  have n1 : rs.Nodup := hrs.up.imp fun q => Int.ne_of_lt q
  have h1 := n1.length_le_of_subset (l₂ := imgs b l.toNat) fun r hr => (hrs.self hr).img fun x => step_imgs (by omega) _ x
  have h2 := imgs_len (b := b) (by omega) h.2.1 (L := l.toNat) (by omega)
  omega
abbrev s__law_all_right : Stmt := topS 47
abbrev N__law_all_right : List Str := ["_law_base", "_law_length", "_law_due", "_law_again", "_law_found", "_law_many_here", "_law_ring"]
theorem sc__law_all_right : FnScope N__law_all_right ["_law_base", "_law_length", "_law_due"] (defScope s__law_all_right) := ⟨rfl, rfl, rfl, by decide +kernel, rfl, by decide +kernel, by decide +kernel⟩
theorem ok__law_all_right {f : Addr} {fd : FuncData} (F : Fun K "_law_all_right" "_law_all_right" s__law_all_right f fd) (B : Bf K mg) (c_rounds : Fn P w K mg base 4 "rounds" ["base", "length"] (sp_rounds K mg)) (c_falls : Fn P w K mg base 4 "falls" ["base", "length"] (sp_falls K mg)) (c__law_many : Fn P w K mg base 1 "_law_many" ["_law_base", "_law_length"] (sp__law_many K mg)) (c__law_all_whole : Fn P w K mg base 1 "_law_all_whole" ["_law_numbers"] (sp__law_all_whole K mg)) : FnOk P w K mg base CX0 5 f fd ["_law_base", "_law_length", "_law_due"] (sp__law_all_right K mg) := by
  refine F.ok (k := 4) sc__law_all_right (fun vs H Q E h => ?_) (fun cdv A outer s H vs Q E hr h => ?_)
  · obtain ⟨b, l, rs, pd, ad, Hb, rfl, _⟩ := h
    rfl
  · obtain ⟨b, l, rs, pd, ad, Hb, rfl, hbl, hrs, hD, q⟩ := h
    obtain ⟨rs', hr0⟩ := hrs.zero hbl.1
    have hrl := rs_len2 hbl hrs
    have hrl1 : 1 ≤ rs.length := by rw [hr0]; simp
    refine ⟨_, (pss_cons (ps_for PassesOwn.never rfl (pi_range1 (by rfl) B.b_range (pa_cons pe_int pa_nil)) (pg_name (i := 3) sc__law_all_right.nd rfl (Or.inl rfl)) (pss_cons (ps_set (i := 4) sc__law_all_right.nd rfl (Or.inl rfl) (pe_fn c_rounds (hr.mono (by decide)) (by rfl) (pa_cons (pv 0) (pa_cons (pv 1) pa_nil))))
          (pss_cons (ps_if (PW.pt (pw_or (pt_cmpR (op_neD hr.units) (pv 4) (pv 2) (nomark _)) (pw_or1 (pt_not (pt_val (pe_callB (cr_all rfl) (by rfl) B.b_all (by decide +kernel) (pa_cons (pe_lc (own := [("_law_ring", 6)]) (g := (gName 6)) (by rfl) sc__law_all_right.nd (pi_list (pv 4)) (blkOk_by (own := [("_law_ring", 6)]) (N := N__law_all_right) (sc := defScope s__law_all_right) (by decide +kernel)) (fun _ _ _ _ _ => (pg_name (i := 6) sc__law_all_right.nd rfl (Or.inl rfl))) (fun _ _ _ _ _ => pts_nil) (fun _ _ _ _ _ => (pe_fn c__law_all_whole (hr.mono (by decide)) (by rfl) (pa_cons (pv 6) pa_nil)))) pa_nil))))))) (pss_one (ps_ret pe_bl)) pss_nil)
          (pss_cons (ps_expr (pe_bm PySem.F.plainAttrs_list PySem.F.slot_list_append PySem.F.type_list_append mt_append (pe_ix ix_list (pv 4) pe_int (fun _ _ => rfl)) (pa_cons pe_int pa_nil)))
          (pss_cons (ps_expr (pe_bm0 PySem.F.plainAttrs_list PySem.F.slot_list_pop PySem.F.type_list_pop mt_pop (pv 4)))
          (pss_one (ps_if (pt_cmpR op_lt (pv 1) pe_int (nomark _)) (pss_cons (ps_set (i := 5) sc__law_all_right.nd rfl (Or.inl rfl) (pe_fn c_falls (hr.mono (by decide)) (by rfl) (pa_cons (pv 0) (pa_cons (pv 1) pa_nil))))
          (pss_cons (ps_if (PW.pt (pw_or (pt_cmpR op_ne (pe_callB call_len_seq (by rfl) B.b_len PySem.boot_len (pa_cons (pv 5) pa_nil)) (pe_callB call_len_seq (by rfl) B.b_len PySem.boot_len (pa_cons (pv 2) pa_nil)) (nomark _)) (pw_or1 (pt_cmpR op_ne (pe_callB (cr_sum rfl) (by rfl) B.b_sum (by decide +kernel) (pa_cons (pv 5) pa_nil)) (pe_fn c__law_many (hr.mono (by decide)) (by rfl) (pa_cons (pv 0) (pa_cons (pv 1) pa_nil))) (nomark _))))) (pss_one (ps_ret pe_bl)) pss_nil)
          (pss_cons (ps_if (PW.pt (pw_or (pt_not (pt_val (pe_fn c__law_all_whole (hr.mono (by decide)) (by rfl) (pa_cons (pv 5) pa_nil)))) (pw_or (pt_cmpR op_lt (pe_callB (cr_min rfl) (by rfl) B.b_min (by decide +kernel) (pa_cons (pv 5) pa_nil)) pe_int (nomark _)) (pw_or1 (pt_cmpR op_lt (pe_ix ix_list (pv 5) pe_int (fun _ _ => rfl)) (pv 0) (nomark _)))))) (pss_one (ps_ret pe_bl)) pss_nil)
          (pss_one (ps_expr (pe_bm PySem.F.plainAttrs_list PySem.F.slot_list_append PySem.F.type_list_append mt_append (pv 5) (pa_cons pe_int pa_nil))))))) pss_nil)))))))
          (pss_one (ps_ret pe_bl))), ?_⟩
    refine q_forR1 (ea_cons ev_c ea_nil) ⟨by decide, by decide⟩ (fun i σ' H' => (∃ y3 y4 y5 y6, σ' = [some (.int b), some (.int l), some (.ref pd), y3, y4, y5, y6]) ∧ Ex H H') (fun H1 e1 => ⟨⟨_, _, _, _, rfl⟩, e1⟩) ?_ ?_
    · rintro i σ' H1 hi ⟨⟨y3, y4, y5, y6, rfl⟩, e1⟩
      refine q_asgN (en_call (ea_cons (ev_var rfl) (ea_cons (ev_var rfl) ea_nil)) (sp_rounds_n hbl hrs)) fun p as H2 np e2 hN => ?_
      have hlen : as.length = rs.length := by rw [hN.len, List.length_map]
      have hD2 := hD.ex (e1.trans e2)
      refine q_when (et_is (b := false) (et_or (et_test (ev_op (ev_var rfl) (ev_var rfl) (rv_neLL (sq_of hN.top) hN.nest (sq_of hD2.top) hD2.nest))) (fun _ => et_not (et_B (ev_allN (bs := List.replicate rs.length true) (el_zipA (zs := trues rs.length true) (ev_var rfl) hN (by rw [trues_len, List.length_map]) (by rw [trues_len]; omega) (fun _ => rfl) fun k a ns z en ez H3 e3 ha => ?_))))) (by simp)) (fun z => nomatch z) fun _ H3 e3 => ?_
      · rw [trues_at ez]
        rw [List.getElem?_map] at en
        cases er : rs[k]? with
        | none =>
          rw [er] at en
          cases en
        | some r =>
          rw [er] at en
          obtain ⟨m, _, hm2, _, hrn, _⟩ := rs_info2 hbl hrs (List.mem_of_getElem? er)
          have ens : rnd (stepM b l.toNat) r = ns := Option.some.inj en
          exact ev_call (ea_cons (ev_var rfl) ea_nil) (sp_allw_v (sq_of ha) (by rw [← ens, hrn, orb_len]; omega))
      have hN3 := hN.ex e3
      have np0 := fresh_back e1 np
      have hnd := List.nodup_cons.mp hN3.nd
      have h0 : ∃ a0, as[0]? = some a0 ∧ H3 a0 = some (.lst ([(0 : Int)].map V.int)) := by
        obtain ⟨a0, e0⟩ : ∃ a0, as[0]? = some a0 := ⟨as[0]'(by omega), List.getElem?_eq_getElem _⟩
        obtain ⟨ns, en, hn⟩ := hN3.get e0
        rw [hr0, List.map_cons, rnd_zero hbl.1] at en
        have : ns = [0] := (Option.some.inj en).symm
        rw [this] at hn
        exact ⟨a0, e0, hn⟩
      obtain ⟨a0, e0, hn0⟩ := h0
      have na0 : H a0 = none := fresh_back e1 (hN3.new a0 (List.mem_of_getElem? e0))
      have hpa0 : p ≠ a0 := fun e => hnd.1 (by rw [e]; exact List.mem_of_getElem? e0)
      refine q_app hn0 (ev_op (ev_var rfl) ev_c (rv_ixL (sq_of hN3.top) (atI_nat (j := 0) (by rw [List.getElem?_map, e0]; rfl)))) ev_c (by decide) fun H4 e4 => ?_
      have hp4 : (upd H4 a0 (.lst ([(0 : Int)].map V.int ++ [.int 1]))) p = some (.lst (as.map V.ref)) := by
        rw [upd_ne hpa0]
        exact e4 p _ hN3.top
      have E4 : Ex H (upd H4 a0 (.lst ([(0 : Int)].map V.int ++ [.int 1]))) := Ex.mut (((e1.trans e2).trans e3).trans e4) na0
      refine q_pop hp4 (by
        intro h9
        have := congrArg List.length h9
        rw [List.length_map, hlen] at this
        have h10 : rs.length = 0 := this
        omega) (ev_var rfl) fun H5 e5 => ?_
      have E5 : Ex H (upd H5 p (.lst (as.map V.ref).dropLast)) := Ex.mut (E4.trans e5) np0
      refine s_when (et_test (ev_op (ev_var rfl) ev_c rv_I0)) (fun hb H6 e6 => ?_) (fun hb H6 e6 => ⟨⟨_, _, _, _, rfl⟩, E5.trans e6⟩)
      have hl6 := of_decide_eq_true hb
      obtain ⟨bm, hbm⟩ := Int.eq_ofNat_of_zero_le (show 0 ≤ b by omega)
      have hrsN : Lsts (bm : Int) l.toNat rs := by
        rw [← hbm]
        exact hrs
      have h64 : rs.length < 64 := few_rounds (b := bm) (by omega) (by omega) (by omega) (by omega) (.inl (by omega)) hrsN
      have hbm2 : b.toNat = bm := by omega
      refine q_asgL (el_call (ea_cons (ev_var rfl) (ea_cons (ev_var rfl) ea_nil)) (sp_fallen_l hbl hrs h64)) fun pg H7 npg e7 hpg => ?_
      have hsum : (rs.map fun r => (fallN b.toNat l.toNat r : Int)).sum = pw b l.toNat := by
        rw [hbm2, fall_sum (b := bm) (by omega) (by omega) hbl.2.2.1 (by omega) hrsN, hbm]
      have hDl : ad.length = rs.length := by rw [hD.len, List.length_map]
      have hD7 := hD.ex ((E5.trans e6).trans e7)
      refine q_when (et_is (b := false) (et_or (et_test (ev_op (ev_lenI (ev_var rfl) (sq_of hpg)) (ev_len (ev_var rfl) (sq_of hD7.top)) (rv_ne rfl))) (fun _ => et_test (ev_op (ev_sum (ev_var rfl) (sq_of hpg)) (ev_call (ea_cons (ev_var rfl) (ea_cons (ev_var rfl) ea_nil)) (sp2_v (by first | exact ⟨by omega, by omega, by omega, by omega⟩ | omega))) (rv_ne rfl)))) (by rw [hsum]; simp [hDl])) (fun z => nomatch z) fun _ H8 e8 => ?_
      have hpg8 := e8 pg _ hpg
      have hmin : 1 ≤ lmin (rs.map fun r => (fallN b.toNat l.toNat r : Int)) := by
        have hm := lmin_mem (l := rs.map fun r => (fallN b.toNat l.toNat r : Int)) (by rw [hr0]; simp)
        obtain ⟨r, hr9, e9⟩ := List.mem_map.mp hm
        rw [← e9, hbm2]
        have := fall_pos (b := bm) (by omega) hrsN hr9
        omega
      have h00 : (rs.map fun r => (fallN b.toNat l.toNat r : Int))[0]? = some (fallN b.toNat l.toNat 0 : Int) := by
        rw [hr0]
        rfl
      have hge : b ≤ (fallN b.toNat l.toNat 0 : Int) := by
        have := fall_zero (b := bm) (by omega) (by omega) hbl.2.2.1 hbl.2.2.2
        rw [hbm2]
        omega
      refine q_when (et_is (b := false) (et_or (et_not (et_B (ev_call (ea_cons (ev_var rfl) ea_nil) (sp_allw_v (sq_of hpg8) (by rw [List.length_map]; omega))))) (fun _ => et_or (et_test (ev_op (ev_min (ev_var rfl) (sq_of hpg8) (by rw [List.length_map]; omega)) ev_c rv_I0)) (fun _ => et_test (ev_op (ev_op (ev_var rfl) ev_c (rv_ixL (sq_of hpg8) (atI_nat (j := 0) (by rw [List.getElem?_map, h00]; rfl)))) (ev_var rfl) rv_I0)))) ?_) (fun z => nomatch z) fun _ H9 e9 => ?_
      · rw [decide_eq_false (by omega), decide_eq_false (by omega)]
        rfl
      exact s_app (e9 pg _ hpg8) (ev_var rfl) ev_c (by rw [List.length_map, List.length_map]; omega) fun H10 e10 => ⟨⟨_, _, _, _, rfl⟩, Ex.mut ((((E5.trans e6).trans e7).trans (e8.trans e9)).trans e10) (fresh_back (E5.trans e6) npg)⟩
    · rintro σ' H1 ⟨⟨y3, y4, y5, y6, rfl⟩, e1⟩
      exact s_ret ev_c fun H2 e2 => q H2 (e1.trans e2)
def sp__law_way_right (K : PySem.W.Frag) (mg : Str → Option Value) : Sp := fun vs H Q _ => ∃ (b l n far : Int) (rs : List Int) (pe : Addr) (ae : List Addr) (Hb : Hp), vs = [.int b, .int l, .int n, .int far, .ref pe] ∧ Dom b l n ∧ 0 ≤ far ∧ Lsts b l.toNat rs ∧ Nst Hb H pe ae (rs.map (rnd (stepM b l.toNat))) ∧ RetV (.bl true) H Q
theorem sp_round_p3 {K : PySem.W.Frag} {mg : Str → Option Value} {σ : L2.St} {E : XK} {ta : TA} {b l n : Int} {H : Hp} (h : Dom b l n) (ha : EvA ta σ H [.int b, .int l, .int n]) :
    EvP (tCall (sp_round_of K mg) [] E ta) σ H fun v H2 => ∃ p x y z, v = .ref p ∧ H2 p = some (.tup [x, y, z]) ∧ ∃ (m c : Nat), x = .int (c : Int) ∧ y = .int ((m : Int) - c) ∧ z = .int (lmin (ring (stepM b l.toNat) n m c)) ∧ Course (stepM b l.toNat) n m c ∧ m ≤ 20737 :=
  fun H1 e Q q => ha H1 e _ fun H2 e2 => ⟨b, l, n, rfl, h, fun t H3 m c hC hm nt e3 h1 => q _ H3 (e2.trans e3) ⟨t, _, _, _, rfl, h1, m, c, rfl, rfl, rfl, hC, hm⟩⟩
theorem given_none {f : Nat → Bool} {v : Nat → V} : ∀ n, (∀ i, i < n → f i = false) → given n f v = []
  | 0, _ => rfl
  | n + 1, h => by rw [given_no (h n (by omega)), given_none n fun i hi => h i (by omega)]
theorem given_one {f : Nat → Bool} {v : Nat → V} {i0 : Nat} (h0 : f i0 = true) (h : ∀ i, i ≠ i0 → f i = false) : ∀ n, i0 < n → given n f v = [v i0]
  | 0, hn => by omega
  | n + 1, hn => by
    by_cases e : n = i0
    · subst e
      rw [given_yes h0, given_none n fun i hi => h i (by omega)]
      rfl
    · rw [given_no (h n e), given_one h0 h n (by omega)]
theorem mem_rnd {f : Int → Int} {n : Int} {m c : Nat} (h : Course f n m c) (x : Int) : x ∈ rnd f (lmin (ring f n m c)) ↔ x ∈ ring f n m c := by
  obtain ⟨j, hj, _⟩ := first_at (lmin_mem (List.ne_nil_of_length_pos (ring_pos (f := f) (n := n) h.lt))) (ring_nodup h)
  rw [← rot_ring h hj, List.mem_append]
  constructor
  · rintro (q | q)
    · exact List.mem_of_mem_drop q
    · exact List.mem_of_mem_take q
  · intro q
    rw [← List.take_append_drop j (ring f n m c)] at q
    rcases List.mem_append.mp q with q | q
    · exact .inr q
    · exact .inl q
theorem in_ring {f : Int → Int} {n : Int} {m c i : Nat} (h : Course f n m c) (hi : i ≤ c) : it f i n ∈ ring f n m c ↔ i = c := by
  have hlt := h.lt
  rw [ring_eq, mem_orb]
  constructor
  · rintro ⟨j, hj, e⟩
    rw [← it_add] at e
    have := h.apart (c + j) i (by omega) (by omega) e
    omega
  · intro e
    exact ⟨0, by omega, by rw [e]; rfl⟩
theorem after_ring {f : Int → Int} {n r : Int} {m c k j : Nat} (hC : Course f r k 0) (hj : it f j r = it f c n) (hk : (k : Int) = (m : Int) - c) (s : Int) (hs : 0 ≤ s) : 0 ≤ ((j : Int) + s) % ((m : Int) - c) ∧ ((j : Int) + s) % ((m : Int) - c) < k ∧ it f (((j : Int) + s) % ((m : Int) - c)).toNat r = it f ((c : Int) + s).toNat n := by
  have hk0 := hC.lt
  rw [← hk]
  have h0 := Int.emod_nonneg ((j : Int) + s) (show (k : Int) ≠ 0 by omega)
  have h1 := Int.emod_lt_of_pos ((j : Int) + s) (show 0 < (k : Int) by omega)
  refine ⟨h0, h1, ?_⟩
  have e1 : (((j : Int) + s) % (k : Int)).toNat = (j + s.toNat) % k := by
    have : (((j + s.toNat) % k : Nat) : Int) = ((j : Int) + s) % (k : Int) := by
      rw [Int.natCast_emod]
      congr 1
      omega
    omega
  have hp := hC.per (j + s.toNat)
  rw [Nat.zero_add, Nat.zero_add, Nat.sub_zero] at hp
  rw [e1, ← hp, it_add, hj, ← it_add, show c + s.toNat = ((c : Int) + s).toNat by omega]
abbrev s__law_way_right : Stmt := topS 48
abbrev N__law_way_right : List Str := ["_law_base", "_law_length", "_law_number", "_law_far", "_law_every", "_law_gone", "_law_here", "_law_steps", "_law_long", "_law_least", "_law_ring", "_law_told", "_law_place", "_law_more", "_law_due", "_law_one"]
theorem sc__law_way_right : FnScope N__law_way_right ["_law_base", "_law_length", "_law_number", "_law_far", "_law_every"] (defScope s__law_way_right) := ⟨rfl, rfl, rfl, by decide +kernel, rfl, by decide +kernel, by decide +kernel⟩
theorem ok__law_way_right {f : Addr} {fd : FuncData} (F : Fun K "_law_way_right" "_law_way_right" s__law_way_right f fd) (B : Bf K mg) (c_round_of : Fn P w K mg base 4 "round_of" ["base", "length", "number"] (sp_round_of K mg)) (c_after : Fn P w K mg base 4 "after" ["base", "length", "number", "steps"] (sp_after K mg)) (c__law_all_whole : Fn P w K mg base 1 "_law_all_whole" ["_law_numbers"] (sp__law_all_whole K mg)) (c__law_step : Fn P w K mg base 1 "_law_step" ["_law_base", "_law_length", "_law_number"] (sp__law_step K mg)) (c_step : Fn P w K mg base 4 "step" ["base", "length", "number"] (sp_step K mg)) : FnOk P w K mg base CX0 5 f fd ["_law_base", "_law_length", "_law_number", "_law_far", "_law_every"] (sp__law_way_right K mg) := by
  refine F.ok (k := 4) sc__law_way_right (fun vs H Q E h => ?_) (fun cdv A outer s H vs Q E hr h => ?_)
  · obtain ⟨b, l, n, far, rs, pe, ae, Hb, rfl, _⟩ := h
    rfl
  · obtain ⟨b, l, n, far, rs, pe, ae, Hb, rfl, hd, hfar, hrs, hN, q⟩ := h
    have hbl := hd.1
    have hrl := rs_len2 hbl hrs
    have hael : ae.length = rs.length := by rw [hN.len, List.length_map]
    refine ⟨_, (pss_cons (ps_par (i := 5) (j := 6) (by rfl) sc__law_way_right.nd rfl rfl (by decide) rfl rfl (pa_cons pe_int (pa_cons (pv 2) pa_nil)) (by rfl))
          (pss_cons (ps_asg (pe_fn c_round_of (hr.mono (by decide)) (by rfl) (pa_cons (pv 0) (pa_cons (pv 1) (pa_cons (pv 2) pa_nil)))) (pg_tup rfl (pgs_cons (pg_name (i := 7) sc__law_way_right.nd rfl (Or.inl rfl)) (pgs_cons (pg_name (i := 8) sc__law_way_right.nd rfl (Or.inl rfl)) (pgs_cons (pg_name (i := 9) sc__law_way_right.nd rfl (Or.inr rfl)) pgs_nil)))))
          (pss_cons (ps_setLc (i := 10) (own := [("_law_one", 15)]) (g := (gName 15)) (by rfl) sc__law_way_right.nd rfl rfl (sw_true rfl rfl rfl (by decide +kernel)) (pi_list (pv 4)) (blkOk_by (own := [("_law_one", 15)]) (N := N__law_way_right) (sc := defScope s__law_way_right) (by decide +kernel)) (fun _ _ _ _ _ => (pg_name (i := 15) sc__law_way_right.nd rfl (Or.inl rfl))) (fun _ _ _ _ _ => (pts_one (pt_cmpR op_eq (pe_ix (r := rIxL K) ix_list (pv 15) pe_int (fun _ _ => rfl)) (pv 9) (nomark _)))) (fun _ _ _ _ _ => (pv 15)))
          (pss_cons (ps_if (PW.pt (pw_or (pt_cmpR op_ne (pe_callB call_len_seq (by rfl) B.b_len PySem.boot_len (pa_cons (pv 10) pa_nil)) pe_int (nomark _)) (pw_or (pt_cmpR op_ne (pe_callB call_len_seq (by rfl) B.b_len PySem.boot_len (pa_cons (pe_ix ix_list (pv 10) pe_int (fun _ _ => rfl)) pa_nil)) (pv 8) (nomark _)) (pw_or1 (pt_not (pt_val (pe_fn c__law_all_whole (hr.mono (by decide)) (by rfl) (pa_cons (pe_lst (pa_cons (pv 7) (pa_cons (pv 8) (pa_cons (pv 9) pa_nil)))) pa_nil)))))))) (pss_one (ps_ret pe_bl)) pss_nil)
          (pss_cons (ps_while PassesOwn.never (pt_cmpR op_notIn_seq (pv 6) (pe_ix ix_list (pv 10) pe_int (fun _ _ => rfl)) (by rfl)) (pss_cons (ps_if (pt_cmpR op_gt (pv 5) pe_int (nomark _)) (pss_one (ps_ret pe_bl)) pss_nil)
          (pss_cons (ps_par (i := 6) (j := 5) (by rfl) sc__law_way_right.nd rfl rfl (by decide) rfl rfl (pa_cons (pe_fn c__law_step (hr.mono (by decide)) (by rfl) (pa_cons (pv 0) (pa_cons (pv 1) (pa_cons (pv 6) pa_nil)))) (pa_cons (pe_op op_add (pv 5) pe_int) pa_nil)) (by rfl))
          (pss_cons (ps_set (i := 11) sc__law_way_right.nd rfl (Or.inl rfl) (pe_fn c_after (hr.mono (by decide)) (by rfl) (pa_cons (pv 0) (pa_cons (pv 1) (pa_cons (pv 2) (pa_cons (pv 5) pa_nil))))))
          (pss_cons (ps_if (PW.pt (pw_or (pt_cmpR op_ne (pv 11) (pv 6) (nomark _)) (pw_or1 (pt_not (pt_val (pe_fn c__law_all_whole (hr.mono (by decide)) (by rfl) (pa_cons (pe_lst (pa_cons (pv 11) (pa_cons (pe_fn c_step (hr.mono (by decide)) (by rfl) (pa_cons (pv 0) (pa_cons (pv 1) (pa_cons (pv 2) pa_nil)))) pa_nil))) pa_nil))))))) (pss_one (ps_ret pe_bl)) pss_nil)
          (pss_one (ps_if (pt_cmpR op_ne (pe_fn c_step (hr.mono (by decide)) (by rfl) (pa_cons (pv 0) (pa_cons (pv 1) (pa_cons (pe_fn c_after (hr.mono (by decide)) (by rfl) (pa_cons (pv 0) (pa_cons (pv 1) (pa_cons (pv 2) (pa_cons (pe_op op_sub (pv 5) pe_int) pa_nil))))) pa_nil)))) (pv 6) (nomark _)) (pss_one (ps_ret pe_bl)) pss_nil)))))))
          (pss_cons (ps_set (i := 12) sc__law_way_right.nd rfl (Or.inl rfl) (pe_bm PySem.F.plainAttrs_list PySem.F.slot_list_index PySem.F.type_list_index mt_index (pe_ix ix_list (pv 10) pe_int (fun _ _ => rfl)) (pa_cons (pv 6) pa_nil)))
          (pss_cons (ps_if (pt_cmpR op_ne (pv 5) (pv 7) (nomark _)) (pss_one (ps_ret pe_bl)) pss_nil)
          (pss_cons (ps_for PassesOwn.never rfl (pi_tup (pe_tup (pa_cons (pv 3) (pa_cons (pv 8) (pa_cons (pe_op op_sub (pv 8) pe_int) (pa_cons (pe_op op_mul (pe_op op_pow pe_int pe_int) (pv 8)) (pa_cons pe_int pa_nil))))))) (pg_name (i := 13) sc__law_way_right.nd rfl (Or.inl rfl)) (pss_cons (ps_set (i := 14) sc__law_way_right.nd rfl (Or.inl rfl) (pe_ix ix_list (pe_ix ix_list (pv 10) pe_int (fun _ _ => rfl)) (pe_op op_mod (pe_op op_add (pv 12) (pv 13)) (pv 8)) (fun _ _ => rfl)))
          (pss_one (ps_if (pt_cmpR op_ne (pe_fn c_after (hr.mono (by decide)) (by rfl) (pa_cons (pv 0) (pa_cons (pv 1) (pa_cons (pv 2) (pa_cons (pe_op op_add (pv 5) (pv 13)) pa_nil))))) (pv 14) (nomark _)) (pss_one (ps_ret pe_bl)) pss_nil))))
          (pss_one (ps_ret pe_bl)))))))))), ?_⟩
    refine q_par (ea_cons ev_c (ea_cons (ev_var rfl) ea_nil)) fun H1 e1 => ?_
    refine q_asg3 (sp_round_p3 hd (ea_cons (ev_var rfl) (ea_cons (ev_var rfl) (ea_cons (ev_var rfl) ea_nil)))) fun x y z H2 e2 hR => ?_
    obtain ⟨m, c, rfl, rfl, rfl, hC, hm⟩ := hR
    have hlt := hC.lt
    have hlst := hC.lst
    have hmr := mem_rnd hC
    have hm99 : m ≤ 99 := by
      obtain ⟨bn, hbn⟩ := Int.eq_ofNat_of_zero_le (show 0 ≤ b by omega)
      rw [hbn] at hC
      exact tails (b := bn) (by omega) (by omega) (by omega) (by omega) hC
    have hin : lmin (ring (stepM b l.toNat) n m c) ∈ rs := (hrs.mem _).mpr ⟨n, hd.2, hlst⟩
    generalize hr9 : lmin (ring (stepM b l.toNat) n m c) = r at hlst hmr hin
    obtain ⟨k, hk0, hk1, hCr, hrn, _⟩ := rs_info2 hbl hrs hin
    have hkm : k = m - c := hlst.ring hC hCr
    obtain ⟨i0, hi0⟩ := List.getElem?_of_mem hin
    have hi0l := (List.getElem?_eq_some_iff.mp hi0).1
    obtain ⟨a0, ha0⟩ : ∃ a0, ae[i0]? = some a0 := ⟨ae[i0]'(by omega), List.getElem?_eq_getElem _⟩
    have hN2 := hN.ex (e1.trans e2)
    have hn1 : rs.Nodup := hrs.up.imp fun q => Int.ne_of_lt q
    refine q_asgL (el_is (ys := [.ref a0]) (el_lcL (fun i => decide (rs[i]? = some r)) (fun i => (ae.map V.ref).getD i .non) (ev_var rfl) (sq_of hN2.top) (by rw [List.length_map]; omega) (fun _ => rfl) (fun i x H3 e3 hx => ?_) (fun i x H3 e3 hx _ => ?_)) ?_) fun pr H3 npr e3 hpr => ?_
    · rw [List.getElem?_map] at hx
      cases ea : ae[i]? with
      | none =>
        rw [ea] at hx
        cases hx
      | some a =>
        rw [ea] at hx
        have ex : V.ref a = x := Option.some.inj hx
        subst ex
        obtain ⟨ns, en, hna⟩ := hN2.get ea
        rw [List.getElem?_map] at en
        cases er : rs[i]? with
        | none =>
          rw [er] at en
          cases en
        | some r2 =>
          rw [er] at en
          obtain ⟨k2, hk2, _, hC2, hrn2, _⟩ := rs_info2 hbl hrs (List.mem_of_getElem? er)
          have ens : rnd (stepM b l.toNat) r2 = ns := Option.some.inj en
          rw [← ens, hrn2] at hna
          refine et_is (et_test (ev_op (ev_op (ev_var rfl) ev_c (rv_ixL (sq_of (e3 a _ hna)) (at_orb2 (k := 0) (by omega) (by omega)))) (ev_var rfl) (rv_eq rfl))) ?_
          show decide (V.int (it (stepM b l.toNat) (0 : Int).toNat r2) = V.int r) = _
          by_cases e9 : r2 = r
          · rw [e9]
            simp [it]
          · simp [it, e9]
    · have : (ae.map V.ref).getD i .non = x := by rw [List.getD_eq_getElem?_getD, hx] <;> rfl
      rw [this]
      exact (ev_var rfl)
    · have ho : ∀ i : Nat, i ≠ i0 → decide (rs[i]? = some r) = false := fun i hne => decide_eq_false fun h9 => hne (by
        have g1 := List.getElem?_eq_some_iff.mp h9
        have g2 := List.getElem?_eq_some_iff.mp hi0
        obtain ⟨g1a, g1b⟩ := g1
        obtain ⟨g2a, g2b⟩ := g2
        rcases Nat.lt_trichotomy i i0 with h10 | h10 | h10
        · have := List.pairwise_iff_getElem.mp (List.nodup_iff_pairwise_ne.mp hn1) i i0 g1a g2a h10
          rw [g1b, g2b] at this
          exact absurd rfl this
        · exact h10
        · have := List.pairwise_iff_getElem.mp (List.nodup_iff_pairwise_ne.mp hn1) i0 i g2a g1a h10
          rw [g1b, g2b] at this
          exact absurd rfl this)
      have g := given_one (f := fun i => decide (rs[i]? = some r)) (v := fun i => (ae.map V.ref).getD i .non) (i0 := i0) (decide_eq_true hi0) ho (ae.map V.ref).length (by rw [List.length_map]; omega)
      refine g.trans ?_
      show [(ae.map V.ref).getD i0 .non] = _
      rw [List.getD_eq_getElem?_getD, List.getElem?_map, ha0]
      rfl
    have hA0 : H3 a0 = some (.lst ((orb (stepM b l.toNat) r k).map V.int)) := by
      obtain ⟨ns, en, hna⟩ := (hN2.ex e3).get ha0
      rw [List.getElem?_map, hi0] at en
      have ens : rnd (stepM b l.toNat) r = ns := Option.some.inj en
      rw [← ens, hrn] at hna
      exact hna
    have hr0 : atI [V.ref a0] 0 = some (.ref a0) := atI_nat (j := 0) rfl
    have hkz : (k : Int) = (m : Int) - c := by omega
    refine q_when (et_is (b := false) (et_or (et_test (ev_op (ev_len (ev_var rfl) (sq_of hpr)) ev_c (rv_ne rfl))) (fun _ => et_or (et_test (ev_op (ev_lenO (ev_op (ev_var rfl) ev_c (rv_ixL (sq_of hpr) hr0)) (sq_of hA0)) (ev_var rfl) (rv_ne rfl))) (fun _ => et_not (et_B (ev_call1L (el_lst (ea_cons (ev_var rfl) (ea_cons (ev_var rfl) (ea_cons (ev_var rfl) ea_nil))) (Nat.le_of_ble_eq_true rfl)) fun p9 H9 e9 hp9 => sp_allw_v (ns := [(c : Int), (m : Int) - c, r]) (sq_of hp9) (Nat.le_of_ble_eq_true rfl)))))) (by rw [hkz]; simp)) (fun z => nomatch z) fun _ H4 e4 => ?_
    have hA4 := e4 a0 _ hA0
    have hpr4 := e4 pr _ hpr
    have E4 := ((e1.trans e2).trans e3).trans e4
    rw [hrn] at hmr
    refine q_while (fun w9 σ' H' => ∃ (i : Nat) (y11 : Option V), w9 = c + 1 - i ∧ i ≤ c ∧ σ' = [some (.int b), some (.int l), some (.int n), some (.int far), some (.ref pe), some (.int (i : Int)), some (.int (it (stepM b l.toNat) i n)), some (.int (c : Int)), some (.int ((m : Int) - c)), some (.int r), some (.ref pr), y11, none, none, none, none] ∧ Ex H4 H') (c + 1) ⟨0, none, rfl, Nat.zero_le _, rfl, Ex.refl H4⟩ ?_
    rintro w9 σ' H5 ⟨i, y11, rfl, hic, rfl, e5⟩
    have hA5 := e5 a0 _ hA4
    have hpr5 := e5 pr _ hpr4
    refine ⟨_, et_test (ev_op (ev_var rfl) (ev_op (ev_var rfl) ev_c (rv_ixL (sq_of hpr5) hr0)) (rv_niL (sq_of hA5) rfl (flat_ints _))), fun hb H6 e6 => ?_, fun hb H6 e6 => ?_⟩
    · rw [in_ints] at hb
      have hb2 : it (stepM b l.toNat) i n ∉ orb (stepM b l.toNat) r k := by simpa using hb
      have hne : i < c := by
        by_cases h9 : i = c
        · exact absurd ((hmr _).mpr ((in_ring hC hic).mpr h9)) hb2
        · omega
      refine ⟨fun σ2 H' => ∃ y11, σ2 = [some (.int b), some (.int l), some (.int n), some (.int far), some (.ref pe), some (.int ((i + 1 : Nat) : Int)), some (.int (it (stepM b l.toNat) (i + 1) n)), some (.int (c : Int)), some (.int ((m : Int) - c)), some (.int r), some (.ref pr), y11, none, none, none, none] ∧ Ex H4 H',
        fun σ2 H' ⟨y, a1, a2⟩ => ⟨c + 1 - (i + 1), by omega, i + 1, y, rfl, by omega, a1, a2⟩, ?_⟩
      refine q_when (et_is (b := false) (et_test (ev_op (ev_var rfl) ev_c rv_I0)) (decide_eq_false (by omega))) (fun z => nomatch z) fun _ H7 e7 => ?_
      refine q_par (ea_cons (ev_call (ea_cons (ev_var rfl) (ea_cons (ev_var rfl) (ea_cons (ev_var rfl) ea_nil))) (sp3_v (by first | assumption | omega))) (ea_cons (ev_op (ev_var rfl) ev_c rv_I0) ea_nil)) fun H8 e8 => ?_
      have hs0 : Dom b l n ∧ 0 ≤ (i : Int) + 1 := ⟨hd, by omega⟩
      have ei : it (stepM b l.toNat) ((i : Int) + 1).toNat n = stepM b l.toNat (it (stepM b l.toNat) i n) := by
        rw [show ((i : Int) + 1).toNat = i + 1 by omega] <;> rfl
      have ei2 : it (stepM b l.toNat) ((i : Int) + 1 - 1).toNat n = it (stepM b l.toNat) i n := by
        rw [show ((i : Int) + 1 - 1).toNat = i by omega]
      have hdi : Dom b l (it (stepM b l.toNat) ((i : Int) + 1 - 1).toNat n) := hd.it _
      refine q_asg (ev_call (ea_cons (ev_var rfl) (ea_cons (ev_var rfl) (ea_cons (ev_var rfl) (ea_cons (ev_var rfl) ea_nil)))) (sp4_v ⟨by first | assumption | omega, by omega⟩)) fun H9 e9 => ?_
      refine q_when (et_is (b := false) (et_or (et_test (ev_op (ev_var rfl) (ev_var rfl) (rv_ne rfl))) (fun _ => et_not (et_B (ev_call1L (el_lst (ea_cons (ev_var rfl) (ea_cons (ev_call (ea_cons (ev_var rfl) (ea_cons (ev_var rfl) (ea_cons (ev_var rfl) ea_nil))) (sp3_v (by first | assumption | omega))) ea_nil)) (Nat.le_of_ble_eq_true rfl)) fun p9 H9 e9 hp9 => sp_allw_v (ns := [it (stepM b l.toNat) ((i : Int) + 1).toNat n, stepM b l.toNat n]) (sq_of hp9) (Nat.le_of_ble_eq_true rfl))))) (by rw [ei]; simp)) (fun z => nomatch z) fun _ H10 e10 => ?_
      refine s_when (et_is (b := false) (et_test (ev_op (ev_call (ea_cons (ev_var rfl) (ea_cons (ev_var rfl) (ea_cons (ev_call (ea_cons (ev_var rfl) (ea_cons (ev_var rfl) (ea_cons (ev_var rfl) (ea_cons (ev_op (ev_var rfl) ev_c rv_I0) ea_nil)))) (sp4_v ⟨by first | assumption | omega, by omega⟩)) ea_nil))) (sp3_v (by first | assumption | omega))) (ev_var rfl) (rv_ne rfl))) (by rw [ei2]; simp)) (fun z => nomatch z) fun _ H11 e11 => ?_
      exact ⟨_, by rw [show ((i + 1 : Nat) : Int) = (i : Int) + 1 by omega] <;> rfl, (((((e5.trans e6).trans e7).trans e8).trans e9).trans e10).trans e11⟩
    · rw [in_ints] at hb
      have hb2 : it (stepM b l.toNat) i n ∈ orb (stepM b l.toNat) r k := by simpa using hb
      have hii : i = c := (in_ring hC hic).mp ((hmr _).mp hb2)
      subst hii
      obtain ⟨j, hj, hjf⟩ := first_at hb2 hCr.apart.nodup
      have hjk : j < k := by
        have := (List.getElem?_eq_some_iff.mp hj).1
        rw [orb_len] at this
        exact this
      have hjr : it (stepM b l.toNat) j r = it (stepM b l.toNat) i n := by
        rw [orb_get hjk] at hj
        exact Option.some.inj hj
      have hA6 := e6 a0 _ hA5
      have hpr6 := e6 pr _ hpr5
      refine q_asg (ev_index (j := j) (ev_op (ev_var rfl) ev_c (rv_ixL (sq_of hpr6) hr0)) (sq_of hA6) (ev_var rfl) hj hjf) fun H7 e7 => ?_
      refine q_when (et_is (b := false) (et_test (ev_op (ev_var rfl) (ev_var rfl) (rv_ne rfl))) (by simp)) (fun z => nomatch z) fun _ H8 e8 => ?_
      have hA8 := e8 a0 _ (e7 a0 _ hA6)
      have hpr8 := e8 pr _ (e7 pr _ hpr6)
      refine q_forNT (eu_tup (ea_cons (ev_var rfl) (ea_cons (ev_var rfl) (ea_cons (ev_op (ev_var rfl) ev_c rv_I0) (ea_cons (ev_op (ev_op ev_c ev_c (rv_I (by exact ⟨by decide, by decide, by decide⟩))) (ev_var rfl) (rv_I (by first | exact Or.inr ⟨by omega, by omega⟩ | exact Or.inl ⟨by omega, by omega⟩))) (ea_cons ev_c ea_nil))))) (Nat.le_of_ble_eq_true rfl))
        (fun _ σ' => ∃ z13 z14, σ' = [some (.int b), some (.int l), some (.int n), some (.int far), some (.ref pe), some (.int (i : Int)), some (.int (it (stepM b l.toNat) i n)), some (.int (i : Int)), some (.int ((m : Int) - i)), some (.int r), some (.ref pr), y11, some (.int (j : Int)), z13, z14, none]) ⟨_, _, rfl⟩ ?_ ?_
      · rintro Hp ep i9 x9 σ' H9 hx9 e9 ⟨z13, z14, rfl⟩
        have hx2 : ∃ s0 : Int, x9 = V.int s0 ∧ 0 ≤ s0 := by
          have hm9 := List.mem_of_getElem? hx9
          simp only [List.mem_cons, List.not_mem_nil, or_false] at hm9
          rcases hm9 with rfl | rfl | rfl | rfl | rfl
          · exact ⟨_, rfl, hfar⟩
          · exact ⟨_, rfl, by omega⟩
          · exact ⟨_, rfl, by omega⟩
          · refine ⟨_, rfl, Int.mul_nonneg ?_ (by omega)⟩
            decide
          · exact ⟨_, rfl, by decide⟩
        obtain ⟨s0, rfl, hs0⟩ := hx2
        obtain ⟨t1, t2, t3⟩ := after_ring hCr hjr hkz s0 hs0
        have hA9 := e9 a0 _ (ep a0 _ hA8)
        have hpr9 := e9 pr _ (ep pr _ hpr8)
        have hsd : Dom b l n ∧ 0 ≤ (i : Int) + s0 := ⟨hd, by omega⟩
        refine q_asg (ev_op (ev_op (ev_var rfl) ev_c (rv_ixL (sq_of hpr9) hr0)) (ev_op (ev_op (ev_var rfl) (ev_var rfl) rv_I0) (ev_var rfl) (rv_I (by first | decide | omega))) (rv_ixL (sq_of hA9) (at_orb2 t1 t2))) fun H10 e10 => ?_
        refine s_when (et_is (b := false) (et_test (ev_op (ev_call (ea_cons (ev_var rfl) (ea_cons (ev_var rfl) (ea_cons (ev_var rfl) (ea_cons (ev_op (ev_var rfl) (ev_var rfl) rv_I0) ea_nil)))) (sp4_v ⟨by first | assumption | omega, by omega⟩)) (ev_var rfl) (rv_ne rfl))) (by rw [t3]; simp)) (fun z => nomatch z) fun _ H11 e11 => ?_
        exact ⟨(e9.trans e10).trans e11, _, _, rfl⟩
      · rintro σ' H9 e9 ⟨z13, z14, rfl⟩
        exact s_ret ev_c fun H10 e10 => q H10 ((((((E4.trans e5).trans e6).trans e7).trans e8).trans e9).trans e10)
def sp__law_came_right (K : PySem.W.Frag) (mg : Str → Option Value) : Sp := sp3 (fun b l _ => 2 ≤ b ∧ b ≤ 12 ∧ 1 ≤ l ∧ l ≤ 8) (fun _ _ _ => .bl true)
theorem cm0_chk : ([2, 3, 4, 5, 6, 7, 8, 9, 10, 11, 12].all fun (b : Nat) => [1, 2, 3, 4, 5, 6, 7, 8].all fun (L : Nat) => decide (cmM b L 0 = (b : Int))) = true := by decide +kernel
theorem df1_chk : ([3, 4, 5, 6, 7, 8, 9, 10, 11, 12].all fun (b : Nat) => [2, 3, 4, 5, 6, 7, 8].all fun (L : Nat) => !difB b L 1) = true := by decide +kernel
theorem cm0 {b l : Int} (h : 2 ≤ b ∧ b ≤ 12 ∧ 1 ≤ l ∧ l ≤ 8) : cmM b l.toNat 0 = b := by
  obtain ⟨bn, rfl⟩ := Int.eq_ofNat_of_zero_le (show 0 ≤ b by omega)
  have := List.all_eq_true.mp (List.all_eq_true.mp cm0_chk bn (by simp; omega)) l.toNat (by simp; omega)
  exact of_decide_eq_true this
theorem df1 {b l : Int} (h : 3 ≤ b ∧ b ≤ 12 ∧ 2 ≤ l ∧ l ≤ 8) : difB b l.toNat 1 = false := by
  obtain ⟨bn, rfl⟩ := Int.eq_ofNat_of_zero_le (show 0 ≤ b by omega)
  have := List.all_eq_true.mp (List.all_eq_true.mp df1_chk bn (by simp; omega)) l.toNat (by simp; omega)
  simpa using this
theorem q_parPV {σ : L2.St} {H : Hp} {D : Ends} {tz : TS} {ta tb : TE} {i j : Nat} {y : V} {R : V → Hp → Prop} (h1 : EvP ta σ H R) (h2 : Ev tb σ H y) (hR : ∀ v H1 H2, Ex H1 H2 → R v H1 → R v H2) (q : ∀ v H1, Ex H H1 → R v H1 → tz D ((σ.set i (some v)).set j (some y)) H1) : tSeq (tPar i j (tCons ta (tCons tb tNil))) tz D σ H :=
  h1 H (Ex.refl H) _ fun v H1 e1 hr => h2 H1 e1 _ fun H2 e2 => ⟨_, _, rfl, q v H2 (e1.trans e2) (hR v H1 H2 e2 hr)⟩
theorem cms_own2 {b l m n : Int} (hd : Dom b l m) (h : stepM b l.toNat m = n) : cms b l.toNat m n = true := by
  unfold cms
  simp [hd.2.1, hd.2.2, h]
abbrev s__law_came_right : Stmt := topS 49
abbrev N__law_came_right : List Str := ["_law_base", "_law_length", "_law_rest", "_law_figures", "_law_turn", "_law_number", "_law_figure", "_law_made_here", "_law_found", "_law_many_here", "_law_none"]
theorem sc__law_came_right : FnScope N__law_came_right ["_law_base", "_law_length", "_law_rest"] (defScope s__law_came_right) := ⟨rfl, rfl, rfl, by decide +kernel, rfl, by decide +kernel, by decide +kernel⟩
theorem ok__law_came_right {f : Addr} {fd : FuncData} (F : Fun K "_law_came_right" "_law_came_right" s__law_came_right f fd) (B : Bf K mg) (T : Cf K mg) (c__law_step : Fn P w K mg base 1 "_law_step" ["_law_base", "_law_length", "_law_number"] (sp__law_step K mg)) (c_came : Fn P w K mg base 4 "came" ["base", "length", "number"] (sp_came K mg)) (c_came_many : Fn P w K mg base 4 "came_many" ["base", "length", "number"] (sp_came_many K mg)) (c__law_all_whole : Fn P w K mg base 1 "_law_all_whole" ["_law_numbers"] (sp__law_all_whole K mg)) (c_step : Fn P w K mg base 4 "step" ["base", "length", "number"] (sp_step K mg)) (M_Came : Mkr P w K mg base 1 (cA mg "Came") ["self", "number"] (sp_Came_init K mg)) (M_Came_shows : Mth P w K mg base 3 (cA mg "Came") "shows" ["self", "base", "length", "number"] (sp_Came_shows K mg)) (M_Never_shows : Mth P w K mg base 3 (cA mg "Never") "shows" ["self", "base", "length", "number"] (sp_Never_shows K mg)) : FnOk P w K mg base CX0 5 f fd ["_law_base", "_law_length", "_law_rest"] (sp__law_came_right K mg) := by
  refine F.ok (k := 4) sc__law_came_right (fun vs H Q E h => ?_) (fun cdv A outer s H vs Q E hr h => ?_)
  · obtain ⟨a, b, c, rfl, _⟩ := h
    rfl
  · obtain ⟨b, l, n, rfl, hbl, q⟩ := h
    have q : RetV (.bl true) H Q := q
    have hbl' : 2 ≤ b ∧ b ≤ 12 ∧ 1 ≤ l ∧ l ≤ 8 := hbl
    obtain ⟨h1, h2, h3, h4⟩ := hbl'
    refine ⟨_, (pss_cons (ps_set (i := 3) sc__law_came_right.nd rfl (Or.inl rfl) (pe_lst pa_nil))
          (pss_cons (ps_for PassesOwn.never rfl (pi_range1 (by rfl) B.b_range (pa_cons (pv 1) pa_nil)) (pg_name (i := 4) sc__law_came_right.nd rfl (Or.inl rfl)) (pss_cons (ps_expr (pe_bm PySem.F.plainAttrs_list PySem.F.slot_list_append PySem.F.type_list_append mt_append (pv 3) (pa_cons (pe_op op_mod (pv 2) (pv 0)) pa_nil)))
          (pss_one (ps_set (i := 2) sc__law_came_right.nd rfl (Or.inl rfl) (pe_op op_fdiv (pv 2) (pv 0))))))
          (pss_cons (ps_set (i := 5) sc__law_came_right.nd rfl (Or.inl rfl) pe_int)
          (pss_cons (ps_for PassesOwn.never rfl (pi_list (pv 3)) (pg_name (i := 6) sc__law_came_right.nd rfl (Or.inl rfl)) (pss_one (ps_set (i := 5) sc__law_came_right.nd rfl (Or.inl rfl) (pe_op op_add (pe_op op_mul (pv 5) (pv 0)) (pv 6)))))
          (pss_cons (ps_set (i := 7) sc__law_came_right.nd rfl (Or.inl rfl) (pe_fn c__law_step (hr.mono (by decide)) (by rfl) (pa_cons (pv 0) (pa_cons (pv 1) (pa_cons (pv 5) pa_nil)))))
          (pss_cons (ps_par (i := 8) (j := 9) (by rfl) sc__law_came_right.nd rfl rfl (by decide) rfl rfl (pa_cons (pe_fn c_came (hr.mono (by decide)) (by rfl) (pa_cons (pv 0) (pa_cons (pv 1) (pa_cons (pv 7) pa_nil)))) (pa_cons (pe_fn c_came_many (hr.mono (by decide)) (by rfl) (pa_cons (pv 0) (pa_cons (pv 1) (pa_cons (pv 7) pa_nil)))) pa_nil)) (by rfl))
          (pss_cons (ps_if (PW.pt (pw_or (pt_not (pt_val (pe_callB call_isi (by rfl) B.b_isinstance (by decide +kernel) (pa_cons (pv 8) (pa_cons (pe_glob (v := .ref (cA mg "Came")) (by rfl) T.g_Came rfl) pa_nil))))) (pw_or (pt_not (pt_val (pe_fn c__law_all_whole (hr.mono (by decide)) (by rfl) (pa_cons (pe_lst (pa_cons (pe_fld (pv 8) rfl) (pa_cons (pv 9) pa_nil))) pa_nil)))) (pw_or1 (pt_cmpR op_lt (pv 9) pe_int (nomark _)))))) (pss_one (ps_ret pe_bl)) pss_nil)
          (pss_cons (ps_if (pt_cmpR op_notBl (pe_or2 (pe_mt M_Came_shows T.cl_Came (hr.mono (by decide)) (pv 8) (pa_cons (pv 0) (pa_cons (pv 1) (pa_cons (pv 7) pa_nil)))) (pe_mt M_Never_shows T.cl_Never (hr.mono (by decide)) (pv 8) (pa_cons (pv 0) (pa_cons (pv 1) (pa_cons (pv 7) pa_nil))))) pe_bl (nomark _)) (pss_one (ps_ret pe_bl)) pss_nil)
          (pss_cons (ps_if (pt_cmpR op_ne (pe_fn c__law_step (hr.mono (by decide)) (by rfl) (pa_cons (pv 0) (pa_cons (pv 1) (pa_cons (pe_fld (pv 8) rfl) pa_nil)))) (pv 7) (nomark _)) (pss_one (ps_ret pe_bl)) pss_nil)
          (pss_cons (ps_if (pt_cmpR op_notBl (pe_mt M_Came_shows T.cl_Came (hr.mono (by decide)) (pe_mk M_Came (hr.mono (by decide)) (by rfl) T.g_Came (pa_cons (pv 5) pa_nil)) (pa_cons (pv 0) (pa_cons (pv 1) (pa_cons (pv 7) pa_nil)))) pe_bl (nomark _)) (pss_one (ps_ret pe_bl)) pss_nil)
          (pss_cons (ps_if (pt_cmpR op_notBl (pe_mt M_Never_shows T.cl_Never (hr.mono (by decide)) (pe_makeO T.mk_Never (by rfl) T.g_Never) (pa_cons (pv 0) (pa_cons (pv 1) (pa_cons (pv 7) pa_nil))) (ht := mcall_of (abase_call (by decide)) fun _ => rfl)) pe_bl (nomark _)) (pss_one (ps_ret pe_bl)) pss_nil)
          (pss_cons (ps_if (PW.pt (pw_or (pt_cmpR op_ne (pe_fn c_step (hr.mono (by decide)) (by rfl) (pa_cons (pv 0) (pa_cons (pv 1) (pa_cons (pv 5) pa_nil)))) (pv 7) (nomark _)) (pw_or1 (pt_cmpR op_ne (pe_fn c_came_many (hr.mono (by decide)) (by rfl) (pa_cons (pv 0) (pa_cons (pv 1) (pa_cons pe_int pa_nil)))) (pv 0) (nomark _))))) (pss_one (ps_ret pe_bl)) pss_nil)
          (pss_cons (ps_if (PW.pt (pw_or (pt_cmpR op_eq (pv 0) pe_int (nomark _)) (pw_or1 (pt_cmpR op_eq (pv 1) pe_int (nomark _))))) (pss_one (ps_ret pe_bl)) pss_nil)
          (pss_cons (ps_set (i := 10) sc__law_came_right.nd rfl (Or.inl rfl) (pe_fn c_came (hr.mono (by decide)) (by rfl) (pa_cons (pv 0) (pa_cons (pv 1) (pa_cons pe_int pa_nil)))))
          (pss_cons (ps_if (PW.pt (pw_or (pt_not (pt_val (pe_callB call_isi (by rfl) B.b_isinstance (by decide +kernel) (pa_cons (pv 10) (pa_cons (pe_glob (v := .ref (cA mg "Never")) (by rfl) T.g_Never rfl) pa_nil))))) (pw_or1 (pt_cmpR op_notBl (pe_or2 (pe_mt M_Came_shows T.cl_Came (hr.mono (by decide)) (pv 10) (pa_cons (pv 0) (pa_cons (pv 1) (pa_cons pe_int pa_nil)))) (pe_mt M_Never_shows T.cl_Never (hr.mono (by decide)) (pv 10) (pa_cons (pv 0) (pa_cons (pv 1) (pa_cons pe_int pa_nil))))) pe_bl (nomark _))))) (pss_one (ps_ret pe_bl)) pss_nil)
          (pss_one (ps_ret (pe_cmpR op_eq (pe_fn c_came_many (hr.mono (by decide)) (by rfl) (pa_cons (pv 0) (pa_cons (pv 1) (pa_cons pe_int pa_nil)))) pe_int (nomark _))))))))))))))))))), ?_⟩
    refine q_asgL (el_lst ea_nil (by decide)) fun p H1 np e1 hp => ?_
    refine q_forR1 (ea_cons (ev_var rfl) ea_nil) (by omega) (fun i σ' H' => ∃ y, σ' = [some (.int b), some (.int l), some (.int (n / pw b i)), some (.ref p), y, none, none, none, none, none, none] ∧ Ex H H' ∧ H' p = some (.lst ((figs b i n).map V.int)))
      (fun H2 e2 => ⟨none, by rw [show n / pw b 0 = n from Int.ediv_one n] <;> rfl, e1.trans e2, e2 p _ hp⟩) ?_ ?_
    · rintro i σ' H' hi ⟨y, rfl, e, hp'⟩
      refine q_app hp' (ev_var rfl) (ev_op (ev_var rfl) (ev_var rfl) (rv_I (by first | decide | omega))) (by rw [List.length_map, figs_length]; omega) fun H2 e2 => ?_
      refine s_asg (ev_op (ev_var rfl) (ev_var rfl) (rv_I (by first | exact ⟨by decide, by decide⟩ | exact ⟨by omega, by omega⟩))) fun H3 e3 => ⟨_, by rw [div_pw (by omega)] <;> rfl, (ex_set e e2 np).trans e3, ?_⟩
      refine e3 p _ (upd_same.trans ?_)
      rw [figs_succ, List.map_append] <;> rfl
    · rintro σ' H2 ⟨y, rfl, e2, hp2⟩
      refine q_asg ev_c fun H3 e3 => ?_
      obtain ⟨ds, hds⟩ : ∃ ds, ds = figs b l.toNat n := ⟨_, rfl⟩
      rw [← hds] at hp2
      have hdl : ds.length = l.toNat := by rw [hds, figs_length]
      have hdd : Digs b ds := by rw [hds]; exact figs_digs (by omega) _ _
      have hp3 := e3 p _ hp2
      refine q_forLn (ev_var rfl) (sq_of hp3) (fun i σ' H' => ∃ y6, σ' = [some (.int b), some (.int l), some (.int (n / pw b l.toNat)), some (.ref p), y, some (.int (wr b (ds.take i))), y6, none, none, none, none] ∧ Ex H3 H') (fun H4 e4 => ⟨_, rfl, e4⟩) (fun i σ' H' _ ⟨_, _, e⟩ => sq_of (e p _ hp3)) ?_ ?_
      · rintro i x σ' H' hi ⟨y6, rfl, e⟩
        obtain ⟨d, hd, rfl⟩ := item_of hi
        exact s_asg (ev_op (ev_op (ev_var rfl) (ev_var rfl) (rv_I (by first | exact Or.inr ⟨by omega, by omega⟩ | exact Or.inl ⟨by omega, by omega⟩))) (ev_var rfl) rv_I0) fun H5 e5 => ⟨_, by rw [wr_take hd] <;> rfl, e.trans e5⟩
      · rintro σ' H4 ⟨y6, rfl, e4⟩
        rw [List.length_map, List.take_length]
        have hD : Dom b l (wr b ds) := ⟨⟨h1, h2, h3, h4⟩, by
          have := wr_bound (b := b) (by omega) hdd
          rw [hdl] at this
          exact this⟩
        generalize wr b ds = nu at hD
        refine q_asg (ev_call (ea_cons (ev_var rfl) (ea_cons (ev_var rfl) (ea_cons (ev_var rfl) ea_nil))) (sp3_v (by first | assumption | omega))) fun H5 e5 => ?_
        have hDs := hD.step
        have hdb := dif_step (b := b) h1 l.toNat nu
        obtain ⟨st, hst⟩ : ∃ st, st = stepM b l.toNat nu := ⟨_, rfl⟩
        rw [← hst] at hDs hdb ⊢
        obtain ⟨bn, hbn⟩ := Int.eq_ofNat_of_zero_le (show 0 ≤ b by omega)
        have hcz : ∀ m : Int, 0 ≤ m → decide (cmM b l.toNat m = 0) = !difB b l.toNat m := fun m hm => by
          have g := cmM_zero (b := bn) (by omega) (L := l.toNat) hm
          rw [← hbn] at g
          exact g
        have hcn : ∀ m : Int, 0 ≤ m → 0 ≤ cmM b l.toNat m := fun m hm => by
          rw [hbn, cmM_eq (b := bn) (by omega) hm]
          omega
        have hcm1 : 1 ≤ cmM b l.toNat st := by
          have g := hcz st hDs.2.1
          rw [hdb] at g
          have g2 := of_decide_eq_false g
          have g3 := hcn st hDs.2.1
          omega
        have hz0 : Dom b l 0 := ⟨⟨h1, h2, h3, h4⟩, by omega, pw_pos (by omega) _⟩
        refine q_parPV (sp_came_p hDs (ea_cons (ev_var rfl) (ea_cons (ev_var rfl) (ea_cons (ev_var rfl) ea_nil)))) (ev_call (ea_cons (ev_var rfl) (ea_cons (ev_var rfl) (ea_cons (ev_var rfl) ea_nil))) (sp3_v (by assumption))) (fun v Ha Hb e9 h9 => by
          obtain ⟨p9, g1, g2, g3⟩ := h9
          refine ⟨p9, g1, g2, ?_⟩
          rcases g3 with ⟨g4, dx, m, g5, g6, g7⟩ | ⟨g4, dx, g5⟩
          · exact .inl ⟨g4, dx, m, g5, g6, e9 p9 _ g7⟩
          · exact .inr ⟨g4, dx, e9 p9 _ g5⟩) fun v H6 e6 hR => ?_
        obtain ⟨pc, rfl, _, hC⟩ := hR
        rcases hC with ⟨_, dx, m, hdm, hstm, hpc⟩ | ⟨hno, _⟩
        · refine q_when (et_is (b := false) (et_or (et_not (et_B (ev_cb (ea_cons (ev_var rfl) (ea_cons ev_c ea_nil)) (rc_isi_own hpc T.cl_Came T.ty_Came T.is_Came_Came)))) (fun _ => et_or (et_not (et_B (ev_call1L (el_lst (ea_cons (ev_fld (ev_var rfl) hpc T.cl_Came T.nF (numF_at m)) (ea_cons (ev_var rfl) ea_nil)) (Nat.le_of_ble_eq_true rfl)) fun p9 H9 e9 hp9 => sp_allw_v (ns := [m, cmM b l.toNat st]) (sq_of hp9) (Nat.le_of_ble_eq_true rfl)))) (fun _ => (et_test (ev_op (ev_var rfl) ev_c rv_I0))))) (by rw [decide_eq_false (by omega)]; rfl)) (fun z => nomatch z) fun _ H7 e7 => ?_
          have hpc7 := e7 pc _ hpc
          refine q_when (et_is (b := false) (et_test (ev_op (ev_or2l (ev_meth (ev_var rfl) hpc7 (numF_no m) (ea_cons (ev_var rfl) (ea_cons (ev_var rfl) (ea_cons (ev_var rfl) ea_nil))) (sp_cshows_v hpc7 ⟨h1, h2, h3, h4⟩))) ev_c rv_notB)) (by rw [cms_own2 hdm hstm]; rfl)) (fun z => nomatch z) fun _ H8 e8 => ?_
          have hpc8 := e8 pc _ hpc7
          refine q_when (et_is (b := false) (et_test (ev_op (ev_call (ea_cons (ev_var rfl) (ea_cons (ev_var rfl) (ea_cons (ev_fld (ev_var rfl) hpc8 T.cl_Came T.nF (numF_at m)) ea_nil))) (sp3_v ⟨h1, h2, h3, h4⟩)) (ev_var rfl) (rv_ne rfl))) (by simp [hstm])) (fun z => nomatch z) fun _ H9 e9 => ?_
          refine q_when (et_is (b := false) (et_test (ev_op (ev_methP (ep_make (ev_var rfl)) (numF_no nu) (ea_cons (ev_var rfl) (ea_cons (ev_var rfl) (ea_cons (ev_var rfl) ea_nil))) fun _ _ _ _ h9 => sp_cshows_v h9 ⟨h1, h2, h3, h4⟩) ev_c rv_notB)) (by rw [cms_own2 hD hst.symm]; rfl)) (fun z => nomatch z) fun _ H10 e10 => ?_
          refine q_when (et_is (b := false) (et_test (ev_op (ev_methP ep_makeO rfl (ea_cons (ev_var rfl) (ea_cons (ev_var rfl) (ea_cons (ev_var rfl) ea_nil))) fun _ _ _ _ _ => sp_nshows_v ⟨h1, h2, h3, h4⟩ hDs.2.1) ev_c rv_notB)) (by rw [hdb]; rfl)) (fun z => nomatch z) fun _ H11 e11 => ?_
          refine q_when (et_is (b := false) (et_or (et_test (ev_op (ev_call (ea_cons (ev_var rfl) (ea_cons (ev_var rfl) (ea_cons (ev_var rfl) ea_nil))) (sp3_v (by first | assumption | omega))) (ev_var rfl) (rv_ne rfl))) (fun _ => (et_test (ev_op (ev_call (ea_cons (ev_var rfl) (ea_cons (ev_var rfl) (ea_cons ev_c ea_nil))) (sp3_v (by assumption))) (ev_var rfl) (rv_ne rfl))))) (by rw [cm0 ⟨h1, h2, h3, h4⟩]; simp [hst])) (fun z => nomatch z) fun _ H12 e12 => ?_
          have E12 : Ex H H12 := ((((((((((e2.trans e3).trans e4).trans e5).trans e6).trans e7).trans e8).trans e9).trans e10).trans e11).trans e12)
          refine q_when (et_or (et_test (ev_op (ev_var rfl) ev_c (rv_eq rfl))) (fun _ => (et_test (ev_op (ev_var rfl) ev_c (rv_eq rfl))))) (fun _ H13 e13 => s_ret ev_c fun H14 e14 => q H14 ((E12.trans e13).trans e14)) (fun hb H13 e13 => ?_)
          have hb' : ¬ b = 2 ∧ ¬ l = 1 := by simpa using hb
          have hd1 := df1 (b := b) (l := l) ⟨by omega, h2, by omega, h4⟩
          have hD1 : Dom b l 1 := ⟨⟨h1, h2, h3, h4⟩, by omega, by
            have h9 := pw_up (b := b) (by omega) (show 1 ≤ l.toNat by omega)
            have h10 : pw b 1 = 1 * b := rfl
            omega⟩
          refine q_asgP (sp_came_p hD1 (ea_cons (ev_var rfl) (ea_cons (ev_var rfl) (ea_cons ev_c ea_nil)))) fun v H14 e14 hR => ?_
          obtain ⟨pn, rfl, _, hC1⟩ := hR
          rcases hC1 with ⟨hyes, _⟩ | ⟨_, dx1, hpn⟩
          · rw [hd1] at hyes
            cases hyes
          · refine q_when (et_is (b := false) (et_or (et_not (et_B (ev_cb (ea_cons (ev_var rfl) (ea_cons ev_c ea_nil)) (rc_isi_own hpn T.cl_Never T.ty_Never T.is_Never_Never)))) (fun _ => et_test (ev_op (ev_or2r (ev_meth (ev_var rfl) hpn rfl (ea_cons (ev_var rfl) (ea_cons (ev_var rfl) (ea_cons ev_c ea_nil))) (sp_nshows_v ⟨h1, h2, h3, h4⟩ (by decide)))) ev_c rv_notB))) (by rw [hd1]; rfl)) (fun z => nomatch z) fun _ H15 e15 => ?_
            have hc1 : cmM b l.toNat 1 = 0 := if_neg (by rw [hd1]; decide)
            exact s_ret (ev_is (ev_op (ev_call (ea_cons (ev_var rfl) (ea_cons (ev_var rfl) (ea_cons ev_c ea_nil))) (sp3_v (by assumption))) ev_c (rv_eq rfl)) (by rw [hc1]; rfl)) fun H16 e16 => q H16 ((((E12.trans e13).trans e14).trans e15).trans e16)
        · rw [hdb] at hno
          cases hno
def sp_law (K : PySem.W.Frag) (mg : Str → Option Value) : Sp := SpLaw K
theorem bl_12_8 : (2 : Int) ≤ 12 ∧ (12 : Int) ≤ 12 ∧ (1 : Int) ≤ 8 ∧ (8 : Int) ≤ 8 := by decide
theorem ev_ixU {K : PySem.W.Frag} {σ : L2.St} {H : Hp} {ta tb : TE} {xs : List V} {i : Int} {v : V} (h : EvU ta σ H xs) (hb : Ev tb σ H (.int i)) (ha : atI xs i = some v) : Ev (tOp (rIxT K) ta tb) σ H v := fun H1 e Q q =>
  h H1 e _ fun p H2 _ e2 hp => hb H2 (e.trans e2) _ fun H3 e3 => rv_ixT (st_of (e3 p _ hp)) ha H3 (Ex.refl H3) Q fun H4 e4 => q H4 ((e2.trans e3).trans e4)
theorem sp_allr_v {K : PySem.W.Frag} {mg : Str → Option Value} {b l : Int} {rs : List Int} {pd : Addr} {ad : List Addr} {Hb H : Hp} (h : 2 ≤ b ∧ b ≤ 12 ∧ 1 ≤ l ∧ l ≤ 8) (hr : Lsts b l.toNat rs) (hN : Nst Hb H pd ad (rs.map (rnd (stepM b l.toNat)))) : SpV (sp__law_all_right K mg) [.int b, .int l, .ref pd] H (.bl true) :=
  fun _ e _ q _ => ⟨b, l, rs, pd, ad, Hb, rfl, h, hr, hN.ex e, q⟩
theorem sp_wayr_v {K : PySem.W.Frag} {mg : Str → Option Value} {b l n far : Int} {rs : List Int} {pd : Addr} {ad : List Addr} {Hb H : Hp} (h : Dom b l n) (hf : 0 ≤ far) (hr : Lsts b l.toNat rs) (hN : Nst Hb H pd ad (rs.map (rnd (stepM b l.toNat)))) : SpV (sp__law_way_right K mg) [.int b, .int l, .int n, .int far, .ref pd] H (.bl true) :=
  fun _ e _ q _ => ⟨b, l, n, far, rs, pd, ad, Hb, rfl, h, hf, hr, hN.ex e, q⟩
theorem q_forT3 {K : PySem.W.Frag} {σ : L2.St} {H : Hp} {D : Ends} {t1 t2 t3 : TE} {tu tz : TS} {i j : Nat} {a1 b1 a2 b2 a3 b3 : V} (h1 : EvU t1 σ H [a1, b1]) (h2 : EvU t2 σ H [a2, b2]) (h3 : EvU t3 σ H [a3, b3]) (Pv : L2.St → Prop) (h0 : Pv σ)
    (hs : ∀ Hp, Ex H Hp → ∀ x y σ' H', (x, y) ∈ [(a1, b1), (a2, b2), (a3, b3)] → Ex Hp H' → Pv σ' → tu { D with nx := fun σ2 H2 => Ex Hp H2 ∧ Pv σ2, ct := fun σ2 H2 => Ex Hp H2 ∧ Pv σ2, bk := tz D } ((σ'.set i (some x)).set j (some y)) H')
    (hd : ∀ σ' H', Ex H H' → Pv σ' → tz D σ' H') : tSeq (tFor (iTup K (tTup (tCons t1 (tCons t2 (tCons t3 tNil))))) (gTup K 2 (gCons (gName i) (gCons (gName j) gNil))) tu) tz D σ H :=
  h1 H (Ex.refl H) _ fun p1 H1 n1 e1 hp1 => h2 H1 e1 _ fun p2 H2 n2 e2 hp2 => h3 H2 (e1.trans e2) _ fun p3 H3 n3 e3 hp3 => ⟨Nat.le_of_ble_eq_true rfl, fun p hp => by
    have E1 : Ex H (upd H3 p (.tup [.ref p1, .ref p2, .ref p3])) := ((e1.trans e2).trans e3).trans (Ex.new hp)
    have k1 := (Ex.new (o := .tup [.ref p1, .ref p2, .ref p3]) hp) p1 _ (e3 p1 _ (e2 p1 _ hp1))
    have k2 := (Ex.new (o := .tup [.ref p1, .ref p2, .ref p3]) hp) p2 _ (e3 p2 _ hp2)
    have k3 := (Ex.new (o := .tup [.ref p1, .ref p2, .ref p3]) hp) p3 _ hp3
    refine ⟨p, rfl, ⟨_, st_of upd_same⟩, for_tup (xs := [.ref p1, .ref p2, .ref p3]) (fun i σ' H' => Ex (upd H3 p (.tup [.ref p1, .ref p2, .ref p3])) H' ∧ Pv σ') ⟨Ex.refl _, h0⟩ (fun i σ' H' _ q => st_of (q.1 p _ upd_same)) (fun i x σ' H' hi q => ?_) (fun σ' H' q => hd σ' H' (E1.trans q.1) q.2)⟩
    have hm := List.mem_of_getElem? hi
    simp only [List.mem_cons, List.not_mem_nil, or_false] at hm
    rcases hm with rfl | rfl | rfl
    · exact ⟨p1, _, rfl, st_of (q.1 p1 _ k1), rfl, a1, _, rfl, b1, _, rfl, rfl, hs _ E1 a1 b1 σ' H' (by simp) q.1 q.2⟩
    · exact ⟨p2, _, rfl, st_of (q.1 p2 _ k2), rfl, a2, _, rfl, b2, _, rfl, rfl, hs _ E1 a2 b2 σ' H' (by simp) q.1 q.2⟩
    · exact ⟨p3, _, rfl, st_of (q.1 p3 _ k3), rfl, a3, _, rfl, b3, _, rfl, rfl, hs _ E1 a3 b3 σ' H' (by simp) q.1 q.2⟩⟩
theorem cms_self {b l n : Int} (h : 0 ≤ n ∧ n < pw b l.toNat) : cms b l.toNat n (stepM b l.toNat n) = true := by
  unfold cms
  simp [h.1, h.2]
theorem cms_no {b l n m : Int} (h : ¬ (0 ≤ n ∧ n < pw b l.toNat)) : cms b l.toNat n m = false := by
  unfold cms
  by_cases h1 : 0 ≤ n
  · have : ¬ n < pw b l.toNat := fun h2 => h ⟨h1, h2⟩
    simp [this]
  · simp [h1]
theorem pw_12_8 : pw 12 (8 : Int).toNat = 429981696 := by decide +kernel
theorem cell_bt {ns : List Int} (hb : ∀ z ∈ ns, Bt z) (k : Nat) : Bt (ns.getD k 0) := by
  rw [List.getD_eq_getElem?_getD]
  cases e : ns[k]? with
  | none => exact Bt.zero
  | some z => exact hb z (List.mem_of_getElem? e)
abbrev s_law : Stmt := topS 50
abbrev N_law : List Str := ["_law_script", "_law_value_here", "_law_base", "_law_length", "_law_due", "_law_drawn", "_law_number", "_law_other", "_law_long", "_law_figures", "_law_made_here"]
theorem sc_law : FnScope N_law ["_law_script"] (defScope s_law) := ⟨rfl, rfl, rfl, by decide +kernel, rfl, by decide +kernel, by decide +kernel⟩
theorem ok_law {f : Addr} {fd : FuncData} (F : Fun K "law" "law" s_law f fd) (B : Bf K mg) (T : Cf K mg) (c__law_value : Fn P w K mg base 2 "_law_value" ["_law_cell", "_law_turn"] (sp__law_value K mg)) (c__law_rounds : Fn P w K mg base 3 "_law_rounds" ["_law_base", "_law_length"] (sp__law_rounds K mg)) (c__law_cell_at : Fn P w K mg base 1 "_law_cell_at" ["_law_script", "_law_k"] (sp__law_cell_at K mg)) (c__law_all_right : Fn P w K mg base 5 "_law_all_right" ["_law_base", "_law_length", "_law_due"] (sp__law_all_right K mg)) (c__law_many : Fn P w K mg base 1 "_law_many" ["_law_base", "_law_length"] (sp__law_many K mg)) (c_step : Fn P w K mg base 4 "step" ["base", "length", "number"] (sp_step K mg)) (c__law_way_right : Fn P w K mg base 5 "_law_way_right" ["_law_base", "_law_length", "_law_number", "_law_far", "_law_every"] (sp__law_way_right K mg)) (c__law_came_right : Fn P w K mg base 5 "_law_came_right" ["_law_base", "_law_length", "_law_rest"] (sp__law_came_right K mg)) (c__law_step : Fn P w K mg base 1 "_law_step" ["_law_base", "_law_length", "_law_number"] (sp__law_step K mg)) (M_Came : Mkr P w K mg base 1 (cA mg "Came") ["self", "number"] (sp_Came_init K mg)) (M_Came_shows : Mth P w K mg base 3 (cA mg "Came") "shows" ["self", "base", "length", "number"] (sp_Came_shows K mg)) : FnOk P w K mg base CX0 6 f fd ["_law_script"] (sp_law K mg) := by
  refine F.ok (k := 5) sc_law (fun vs H Q E h => ?_) (fun cdv A outer s H vs Q E hr h => ?_)
  · obtain ⟨a, ns, rfl, _⟩ := h
    rfl
  · obtain ⟨a, ns, rfl, hs, hlen, hbt, q⟩ := h
    have hc := fun k => cell_bt hbt k
    refine ⟨_, (pss_cons (ps_set (i := 0) sc_law.nd rfl (Or.inl rfl) (pe_slice sl_list (pv 0) po_none (po_some pe_int)))
          (pss_cons (ps_set (i := 1) sc_law.nd rfl (Or.inl rfl) (pe_fn c__law_value (hr.mono (by decide)) (by rfl) (pa_cons (pe_fn c__law_cell_at (hr.mono (by decide)) (by rfl) (pa_cons (pv 0) (pa_cons pe_int pa_nil))) (pa_cons pe_int pa_nil))))
          (pss_cons (ps_par (i := 2) (j := 3) (by rfl) sc_law.nd rfl rfl (by decide) rfl rfl (pa_cons (pe_ix ix_tup (pe_tup (pa_cons pe_int (pa_cons pe_int (pa_cons (pe_op op_add pe_int (pe_op op_mod (pe_op op_fdiv (pv 1) pe_int) pe_int)) pa_nil)))) (pe_op op_mod (pv 1) pe_int) (fun _ _ => rfl)) (pa_cons (pe_op op_add pe_int (pe_op op_mod (pe_op op_fdiv (pv 1) pe_int) pe_int)) pa_nil)) (by rfl))
          (pss_cons (ps_set (i := 4) sc_law.nd rfl (Or.inl rfl) (pe_fn c__law_rounds (hr.mono (by decide)) (by rfl) (pa_cons (pv 2) (pa_cons (pv 3) pa_nil))))
          (pss_cons (ps_if (pt_not (pt_val (pe_fn c__law_all_right (hr.mono (by decide)) (by rfl) (pa_cons (pv 2) (pa_cons (pv 3) (pa_cons (pv 4) pa_nil)))))) (pss_one (ps_ret pe_bl)) pss_nil)
          (pss_cons (ps_set (i := 5) sc_law.nd rfl (Or.inl rfl) (pe_op op_mod (pe_fn c__law_value (hr.mono (by decide)) (by rfl) (pa_cons (pe_fn c__law_cell_at (hr.mono (by decide)) (by rfl) (pa_cons (pv 0) (pa_cons pe_int pa_nil))) (pa_cons pe_int pa_nil))) (pe_fn c__law_many (hr.mono (by decide)) (by rfl) (pa_cons (pv 2) (pa_cons (pv 3) pa_nil)))))
          (pss_cons (ps_for PassesOwn.never rfl (pi_tup (pe_tup (pa_cons (pe_op op_mod (pe_op op_fdiv (pv 1) pe_int) (pe_fn c__law_many (hr.mono (by decide)) (by rfl) (pa_cons (pv 2) (pa_cons pe_int pa_nil)))) (pa_cons (pv 5) pa_nil)))) (pg_name (i := 6) sc_law.nd rfl (Or.inl rfl)) (pss_one (ps_if (pt_not (pt_val (pe_fn c__law_way_right (hr.mono (by decide)) (by rfl) (pa_cons (pv 2) (pa_cons (pv 3) (pa_cons (pv 6) (pa_cons (pe_op op_mod (pv 1) (pe_op op_pow pe_int pe_int)) (pa_cons (pv 4) pa_nil)))))))) (pss_one (ps_ret pe_bl)) pss_nil)))
          (pss_cons (ps_for PassesOwn.never rfl (pi_tup (pe_tup (pa_cons (pe_tup (pa_cons pe_int (pa_cons pe_int pa_nil))) (pa_cons (pe_tup (pa_cons (pe_op op_add pe_int (pe_op op_mod (pe_op op_fdiv (pv 1) pe_int) pe_int)) (pa_cons (pe_op op_add pe_int (pe_op op_mod (pe_op op_fdiv (pv 1) pe_int) pe_int)) pa_nil))) (pa_cons (pe_tup (pa_cons pe_int (pa_cons pe_int pa_nil))) pa_nil))))) (pg_tup rfl (pgs_cons (pg_name (i := 7) sc_law.nd rfl (Or.inl rfl)) (pgs_cons (pg_name (i := 8) sc_law.nd rfl (Or.inl rfl)) pgs_nil))) (pss_one (ps_if (pt_not (pt_val (pe_fn c__law_came_right (hr.mono (by decide)) (by rfl) (pa_cons (pv 7) (pa_cons (pv 8) (pa_cons (pe_fn c__law_value (hr.mono (by decide)) (by rfl) (pa_cons (pe_fn c__law_cell_at (hr.mono (by decide)) (by rfl) (pa_cons (pv 0) (pa_cons pe_int pa_nil))) (pa_cons (pv 7) pa_nil))) pa_nil)))))) (pss_one (ps_ret pe_bl)) pss_nil)))
          (pss_cons (ps_set (i := 9) sc_law.nd rfl (Or.inl rfl) (pe_tup (pa_cons (pe_op op_add (pe_op op_add (pe_op op_add (pe_op op_mul pe_int (pe_op op_pow pe_int pe_int)) (pe_op op_mul pe_int (pe_op op_pow pe_int pe_int))) (pe_op op_mul pe_int (pe_op op_pow pe_int pe_int))) (pe_op op_mul pe_int (pe_op op_pow pe_int pe_int))) (pa_cons (pe_op op_mul pe_int (pe_op op_pow pe_int pe_int)) (pa_cons (pe_op op_sub (pe_op op_pow pe_int pe_int) pe_int) (pa_cons (pe_op op_pow pe_int pe_int) pa_nil))))))
          (pss_cons (ps_for PassesOwn.never rfl (pi_tup (pv 9)) (pg_name (i := 6) sc_law.nd rfl (Or.inl rfl)) (pss_cons (ps_set (i := 10) sc_law.nd rfl (Or.inl rfl) (pe_fn c_step (hr.mono (by decide)) (by rfl) (pa_cons pe_int (pa_cons pe_int (pa_cons (pv 6) pa_nil)))))
          (pss_one (ps_if (PW.pt (pw_or (pt_cmpR op_ne (pv 10) (pe_fn c__law_step (hr.mono (by decide)) (by rfl) (pa_cons pe_int (pa_cons pe_int (pa_cons (pv 6) pa_nil)))) (nomark _)) (pw_or1 (pt_cmpR op_notBl (pe_mt M_Came_shows T.cl_Came (hr.mono (by decide)) (pe_mk M_Came (hr.mono (by decide)) (by rfl) T.g_Came (pa_cons (pv 6) pa_nil)) (pa_cons pe_int (pa_cons pe_int (pa_cons (pv 10) pa_nil)))) pe_bl (nomark _))))) (pss_one (ps_ret pe_bl)) pss_nil))))
          (pss_one (ps_ret (pe_and (pe_cmpR op_isBl (pe_mt M_Came_shows T.cl_Came (hr.mono (by decide)) (pe_mk M_Came (hr.mono (by decide)) (by rfl) T.g_Came (pa_cons (pe_op op_pow pe_int pe_int) pa_nil)) (pa_cons pe_int (pa_cons pe_int (pa_cons pe_int pa_nil)))) pe_bl (nomark _)) (pe_one (pe_cmpR op_isBl (pe_mt M_Came_shows T.cl_Came (hr.mono (by decide)) (pe_mk M_Came (hr.mono (by decide)) (by rfl) T.g_Came (pa_cons (pe_un un_neg pe_int) pa_nil)) (pa_cons pe_int (pa_cons pe_int (pa_cons pe_int pa_nil)))) pe_bl (nomark _)))))))))))))))), ?_⟩
    refine q_asgL (el_sl (ev_var rfl) eo_none (eo_some ev_c) hs) fun p H1 np e1 hp => ?_
    rw [cut_script (by rw [List.length_map]; exact hlen)] at hp
    refine q_asg (ev_call (ea_cons (ev_call (ea_cons (ev_var rfl) (ea_cons ev_c ea_nil)) (sp_cell_v (sq_of hp) (by decide))) (ea_cons ev_c ea_nil)) (sp2_v ⟨hc _, by decide, by decide⟩)) fun H2 e2 => ?_
    generalize valueM (ns.getD (0 : Int).toNat 0) 3 = v
    obtain ⟨b, hbv, hb0⟩ : ∃ b : Int, atI [V.int 10, V.int 10, V.int (2 + v / 7 % 11)] (v % 3) = some (.int b) ∧ 2 ≤ b ∧ b ≤ 12 := by
      have h3 : v % 3 = 0 ∨ v % 3 = 1 ∨ v % 3 = 2 := by omega
      rcases h3 with h3 | h3 | h3 <;> rw [h3]
      · exact ⟨10, atI_nat (j := 0) rfl, by decide, by decide⟩
      · exact ⟨10, atI_nat (j := 1) rfl, by decide, by decide⟩
      · exact ⟨2 + v / 7 % 11, atI_nat (j := 2) rfl, by omega, by omega⟩
    refine q_par (ea_cons (ev_ixU (eu_tup (ea_cons ev_c (ea_cons ev_c (ea_cons (ev_op ev_c (ev_op (ev_op (ev_var rfl) ev_c (rv_I (by first | exact ⟨by decide, by decide⟩ | exact ⟨by omega, by omega⟩))) ev_c (rv_I (by first | decide | omega))) rv_I0) ea_nil))) (Nat.le_of_ble_eq_true rfl)) (ev_op (ev_var rfl) ev_c (rv_I (by first | decide | omega))) hbv) (ea_cons (ev_op ev_c (ev_op (ev_op (ev_var rfl) ev_c (rv_I (by first | exact ⟨by decide, by decide⟩ | exact ⟨by omega, by omega⟩))) ev_c (rv_I (by first | decide | omega))) rv_I0) ea_nil)) fun H3 e3 => ?_
    obtain ⟨l, hl⟩ : ∃ l, l = 2 + v / 77 % 7 := ⟨_, rfl⟩
    rw [← hl]
    have hl0 : 2 ≤ l ∧ l ≤ 8 := by omega
    have hbl : 2 ≤ b ∧ b ≤ 12 ∧ 1 ≤ l ∧ l ≤ 8 := ⟨hb0.1, hb0.2, by omega, hl0.2⟩
    obtain ⟨rs, hrs⟩ := Lsts.ex hbl
    refine q_asgN (en_call (ea_cons (ev_var rfl) (ea_cons (ev_var rfl) ea_nil)) (sp_lrounds_n hbl hrs)) fun pe ae H4 npe e4 hN => ?_
    refine q_when (et_is (b := false) (et_not (et_B (ev_call (ea_cons (ev_var rfl) (ea_cons (ev_var rfl) (ea_cons (ev_var rfl) ea_nil))) (sp_allr_v hbl hrs hN)))) rfl) (fun z => nomatch z) fun _ H5 e5 => ?_
    have hN5 := hN.ex e5
    have hp5 := e5 p _ (e4 p _ (e3 p _ (e2 p _ hp)))
    have hpp := pw_pos (b := b) (by omega) l.toNat
    have hp2 := pw_pos (b := b) (by omega) (2 : Int).toNat
    have hle : pw b (2 : Int).toNat ≤ pw b l.toNat := by
      have g := pw_add b 2 (l.toNat - 2)
      have g2 := pw_pos (b := b) (by omega) (l.toNat - 2)
      rw [show 2 + (l.toNat - 2) = l.toNat by omega] at g
      rw [g]
      have g3 := Int.mul_le_mul_of_nonneg_left (show 1 ≤ pw b (l.toNat - 2) by omega) (Int.le_of_lt hp2)
      rw [Int.mul_one] at g3
      exact g3
    refine q_asg (ev_op (ev_call (ea_cons (ev_call (ea_cons (ev_var rfl) (ea_cons ev_c ea_nil)) (sp_cell_v (sq_of hp5) (by decide))) (ea_cons ev_c ea_nil)) (sp2_v ⟨hc _, by decide, by decide⟩)) (ev_call (ea_cons (ev_var rfl) (ea_cons (ev_var rfl) ea_nil)) (sp2_v ⟨hb0.1, hb0.2, by omega, hl0.2⟩)) (rv_I (by omega))) fun H6 e6 => ?_
    have hdr : 0 ≤ valueM (ns.getD (1 : Int).toNat 0) 5 % pw b l.toNat ∧ valueM (ns.getD (1 : Int).toNat 0) 5 % pw b l.toNat < pw b l.toNat := ⟨Int.emod_nonneg _ (by omega), Int.emod_lt_of_pos _ (by omega)⟩
    generalize valueM (ns.getD (1 : Int).toNat 0) 5 % pw b l.toNat = dr at hdr
    have hfar : 0 ≤ v % 10 ^ 9 := Int.emod_nonneg _ (by decide)
    refine q_forNT (eu_tup (ea_cons (ev_op (ev_op (ev_var rfl) ev_c (rv_I (by first | exact ⟨by decide, by decide⟩ | exact ⟨by omega, by omega⟩))) (ev_call (ea_cons (ev_var rfl) (ea_cons ev_c ea_nil)) (sp2_v ⟨hb0.1, hb0.2, by decide, by decide⟩)) (rv_I (by omega))) (ea_cons (ev_var rfl) ea_nil)) (Nat.le_of_ble_eq_true rfl))
      (fun _ σ' => ∃ z6, σ' = [some (.ref p), some (.int v), some (.int b), some (.int l), some (.ref pe), some (.int dr), z6, none, none, none, none]) ⟨_, rfl⟩ ?_ ?_
    · rintro Hp ep i9 x9 σ' H7 hx9 e7 ⟨z6, rfl⟩
      have hx2 : ∃ s0 : Int, x9 = V.int s0 ∧ Dom b l s0 := by
        have hm9 := List.mem_of_getElem? hx9
        simp only [List.mem_cons, List.not_mem_nil, or_false] at hm9
        rcases hm9 with rfl | rfl
        · refine ⟨_, rfl, hbl, Int.emod_nonneg _ (by omega), ?_⟩
          have := Int.emod_lt_of_pos (v / 7) (show 0 < pw b (2 : Int).toNat by omega)
          omega
        · exact ⟨_, rfl, hbl, hdr⟩
      obtain ⟨s0, rfl, hs0⟩ := hx2
      have hN7 := hN5.ex ((e6.trans ep).trans e7)
      refine s_when (et_is (b := false) (et_not (et_B (ev_call (ea_cons (ev_var rfl) (ea_cons (ev_var rfl) (ea_cons (ev_var rfl) (ea_cons (ev_op (ev_var rfl) (ev_op ev_c ev_c (rv_I (by exact ⟨by decide, by decide, by decide⟩))) (rv_I (by first | decide | omega))) (ea_cons (ev_var rfl) ea_nil))))) (sp_wayr_v hs0 hfar hrs hN7)))) rfl) (fun z => nomatch z) fun _ H8 e8 => ?_
      exact ⟨e7.trans e8, _, rfl⟩
    · rintro σ' H7 e7 ⟨z6, rfl⟩
      have hp7 := e7 p _ (e6 p _ hp5)
      refine q_forT3 (eu_tup (ea_cons ev_c (ea_cons ev_c ea_nil)) (Nat.le_of_ble_eq_true rfl)) (eu_tup (ea_cons (ev_op ev_c (ev_op (ev_op (ev_var rfl) ev_c (rv_I (by first | exact ⟨by decide, by decide⟩ | exact ⟨by omega, by omega⟩))) ev_c (rv_I (by first | decide | omega))) rv_I0) (ea_cons (ev_op ev_c (ev_op (ev_op (ev_var rfl) ev_c (rv_I (by first | exact ⟨by decide, by decide⟩ | exact ⟨by omega, by omega⟩))) ev_c (rv_I (by first | decide | omega))) rv_I0) ea_nil)) (Nat.le_of_ble_eq_true rfl)) (eu_tup (ea_cons ev_c (ea_cons ev_c ea_nil)) (Nat.le_of_ble_eq_true rfl))
        (fun σ' => ∃ z7 z8, σ' = [some (.ref p), some (.int v), some (.int b), some (.int l), some (.ref pe), some (.int dr), z6, z7, z8, none, none]) ⟨_, _, rfl⟩ ?_ ?_
      · rintro Hp ep x y σ' H8 hxy e8 ⟨z7, z8, rfl⟩
        have hx2 : ∃ b2 l2 : Int, x = V.int b2 ∧ y = V.int l2 ∧ (2 ≤ b2 ∧ b2 ≤ 12 ∧ 1 ≤ l2 ∧ l2 ≤ 8) := by
          simp only [List.mem_cons, List.not_mem_nil, or_false, Prod.mk.injEq] at hxy
          rcases hxy with ⟨rfl, rfl⟩ | ⟨rfl, rfl⟩ | ⟨rfl, rfl⟩
          · exact ⟨_, _, rfl, rfl, by decide⟩
          · exact ⟨_, _, rfl, rfl, by omega⟩
          · exact ⟨_, _, rfl, rfl, by decide⟩
        obtain ⟨b2, l2, rfl, rfl, hbl2⟩ := hx2
        have hp8 := e8 p _ (ep p _ hp7)
        have hb20 : 0 ≤ b2 ∧ b2 ≤ 100 := by omega
        refine s_when (et_is (b := false) (et_not (et_B (ev_call (ea_cons (ev_var rfl) (ea_cons (ev_var rfl) (ea_cons (ev_call (ea_cons (ev_call (ea_cons (ev_var rfl) (ea_cons ev_c ea_nil)) (sp_cell_v (sq_of hp8) (by decide))) (ea_cons (ev_var rfl) ea_nil)) (sp2_v ⟨hc _, hb20.1, hb20.2⟩)) ea_nil))) (sp3_v hbl2)))) rfl) (fun z => nomatch z) fun _ H9 e9 => ?_
        exact ⟨e8.trans e9, _, _, rfl⟩
      · rintro σ' H8 e8 ⟨z7, z8, rfl⟩
        refine q_asgU (eu_tup (ea_cons (ev_op (ev_op (ev_op (ev_op ev_c (ev_op ev_c ev_c (rv_I (by exact ⟨by decide, by decide, by decide⟩))) (rv_I (by first | exact Or.inr ⟨by omega, by omega⟩ | exact Or.inl ⟨by omega, by omega⟩))) (ev_op ev_c (ev_op ev_c ev_c (rv_I (by exact ⟨by decide, by decide, by decide⟩))) (rv_I (by first | exact Or.inr ⟨by omega, by omega⟩ | exact Or.inl ⟨by omega, by omega⟩))) rv_I0) (ev_op ev_c (ev_op ev_c ev_c (rv_I (by exact ⟨by decide, by decide, by decide⟩))) (rv_I (by first | exact Or.inr ⟨by omega, by omega⟩ | exact Or.inl ⟨by omega, by omega⟩))) rv_I0) (ev_op ev_c (ev_op ev_c ev_c (rv_I (by exact ⟨by decide, by decide, by decide⟩))) (rv_I (by first | exact Or.inr ⟨by omega, by omega⟩ | exact Or.inl ⟨by omega, by omega⟩))) rv_I0) (ea_cons (ev_op ev_c (ev_op ev_c ev_c (rv_I (by exact ⟨by decide, by decide, by decide⟩))) (rv_I (by first | exact Or.inr ⟨by omega, by omega⟩ | exact Or.inl ⟨by omega, by omega⟩))) (ea_cons (ev_op (ev_op ev_c ev_c (rv_I (by exact ⟨by decide, by decide, by decide⟩))) ev_c rv_I0) (ea_cons (ev_op ev_c ev_c (rv_I (by exact ⟨by decide, by decide, by decide⟩))) ea_nil)))) (Nat.le_of_ble_eq_true rfl)) fun pf H9 npf e9 hpf => ?_
        refine q_forT (ev_var rfl) (st_of hpf) (fun _ σ' H' => (∃ z6 z10, σ' = [some (.ref p), some (.int v), some (.int b), some (.int l), some (.ref pe), some (.int dr), z6, z7, z8, some (.ref pf), z10]) ∧ Ex H9 H') (fun H10 e10 => ⟨⟨_, _, rfl⟩, e10⟩) (fun i σ' H' _ h => st_of (h.2 pf _ hpf)) ?_ ?_
        · rintro i9 x9 σ' H10 hx9 ⟨⟨z6, z10, rfl⟩, e10⟩
          have hx2 : ∃ s0 : Int, x9 = V.int s0 ∧ Dom 12 8 s0 := by
            have hm9 := List.mem_of_getElem? hx9
            simp only [List.mem_cons, List.not_mem_nil, or_false] at hm9
            rcases hm9 with rfl | rfl | rfl | rfl <;> exact ⟨_, rfl, bl_12_8, by decide +kernel, by rw [pw_12_8]; decide +kernel⟩
          obtain ⟨s0, rfl, hs0⟩ := hx2
          have hb1 := bl_12_8
          refine q_asg (ev_call (ea_cons ev_c (ea_cons ev_c (ea_cons (ev_var rfl) ea_nil))) (sp3_v (by first | assumption | omega))) fun H11 e11 => ?_
          refine s_when (et_is (b := false) (et_or (et_test (ev_op (ev_var rfl) (ev_call (ea_cons ev_c (ea_cons ev_c (ea_cons (ev_var rfl) ea_nil))) (sp3_v (by first | assumption | omega))) (rv_ne rfl))) (fun _ => et_test (ev_op (ev_methP (ep_make (ev_var rfl)) (numF_no s0) (ea_cons ev_c (ea_cons ev_c (ea_cons (ev_var rfl) ea_nil))) fun _ _ _ _ h9 => sp_cshows_v h9 bl_12_8) ev_c rv_notB))) (by rw [cms_self hs0.2]; simp)) (fun z => nomatch z) fun _ H12 e12 => ?_
          exact ⟨⟨_, _, rfl⟩, (e10.trans e11).trans e12⟩
        · rintro σ' H10 ⟨⟨z6, z10, rfl⟩, e10⟩
          exact s_ret (ev_is (ev_andV (ev_op (ev_methP (ep_make (ev_op ev_c ev_c (rv_I (by exact ⟨by decide, by decide, by decide⟩)))) (numF_no _) (ea_cons ev_c (ea_cons ev_c (ea_cons ev_c ea_nil))) fun _ _ _ _ h9 => sp_cshows_v h9 bl_12_8) ev_c rv_isB) fun _ => ev_op (ev_methP (ep_make (m := -1) (ev_un ev_c ru_neg)) (numF_no _) (ea_cons ev_c (ea_cons ev_c (ea_cons ev_c ea_nil))) fun _ _ _ _ h9 => sp_cshows_v h9 bl_12_8) ev_c rv_isB) (by rw [cms_no (n := -1) (by decide), cms_no (by rw [pw_12_8]; decide +kernel)]; rfl)) fun H11 e11 => q H11
end
end Sl
namespace Sl
open PySem PySem.Spec PyProof.Rows L2 Evl
theorem all_mk {P : Program} {w : World} {K : PySem.W.Frag} {h : Heap} {mg : Str → Option Value} {fa : Addr} (X : K.In h) (G : h.Ns mainGlobals mg) (hfa : mg "law" = some (.ref fa))
    {C_Answer C_Came C_Never : Addr}
    (a_Answer : PySem.W.nsIn K mainGlobals "Answer" = some (some (.ref C_Answer)))
    (a_Came : PySem.W.nsIn K mainGlobals "Came" = some (some (.ref C_Came)))
    (a_Never : PySem.W.nsIn K mainGlobals "Never" = some (some (.ref C_Never)))
    (pg_Came : PySem.W.plainGet K C_Came Str.empty = true)
    (hd_Came : PySem.W.hasDictIn K C_Came = true)
    (po_Came : PySem.W.plainOver K C_Came = true)
    (sa_Came : PySem.W.findIn K (.ref C_Came) "__setattr__" = some (some (.builtin "object.__setattr__")))
    (mk_Came : PySem.W.makesIn K C_Came = true)
    (kc_Came : PySem.W.keepIn K (.ref C_Came) = true)
    (ha_Came : PySem.W.findIn K (.ref C_Came) "__class__" = some (some (.builtin "object.__class__")))
    (hm_Came : PySem.W.mroIn K C_Came (.type "object") = some true)
    (is_Came_Answer : PySem.W.kitOne K (.ref C_Came) (.ref C_Answer) = some true)
    (is_Came_Came : PySem.W.kitOne K (.ref C_Came) (.ref C_Came) = some true)
    (is_Came_Never : PySem.W.kitOne K (.ref C_Came) (.ref C_Never) = some false)
    (pg_Never : PySem.W.plainGet K C_Never Str.empty = true)
    (hd_Never : PySem.W.hasDictIn K C_Never = true)
    (po_Never : PySem.W.plainOver K C_Never = true)
    (sa_Never : PySem.W.findIn K (.ref C_Never) "__setattr__" = some (some (.builtin "object.__setattr__")))
    (mk_Never : PySem.W.makesIn K C_Never = true)
    (kc_Never : PySem.W.keepIn K (.ref C_Never) = true)
    (ha_Never : PySem.W.findIn K (.ref C_Never) "__class__" = some (some (.builtin "object.__class__")))
    (hm_Never : PySem.W.mroIn K C_Never (.type "object") = some true)
    (is_Never_Answer : PySem.W.kitOne K (.ref C_Never) (.ref C_Answer) = some true)
    (is_Never_Came : PySem.W.kitOne K (.ref C_Never) (.ref C_Came) = some false)
    (is_Never_Never : PySem.W.kitOne K (.ref C_Never) (.ref C_Never) = some true)
    (hn_ : PySem.W.specialIn K (.builtin "object.__class__") "__get__" = some (some (.builtin "getset_descriptor.__get__"))) (htk_ : PySem.W.takesIn K (.builtin "object.__class__") = some true)
    (in_Never : PySem.W.findIn K (.ref C_Never) "__init__" = some (some (.builtin "object.__init__"))) (nF_ : PySem.W.findIn K (.ref C_Came) "number" = some none)
    {f_is_whole : Addr} {od_is_whole an_is_whole : Option Addr} {sl_is_whole : Array (Option Value)} {oc_is_whole kV_is_whole dc_is_whole pm_is_whole cd_is_whole ct_is_whole : Value}
    (a_is_whole : PySem.W.nsIn K mainGlobals "is_whole" = some (some (.ref f_is_whole))) (l_is_whole : K.lookup f_is_whole = some ⟨oc_is_whole, od_is_whole, .func (PySem.W.fnOf "is_whole" "is_whole" (defArgs s_is_whole) (defBody s_is_whole) (defScope s_is_whole) .none kV_is_whole dc_is_whole pm_is_whole an_is_whole cd_is_whole ct_is_whole), sl_is_whole⟩) (c_is_whole : PySem.W.codeIn K cd_is_whole "is_whole" = true) (k_is_whole : PySem.W.keepIn K (.ref f_is_whole) = true)
    {f_power_of : Addr} {od_power_of an_power_of : Option Addr} {sl_power_of : Array (Option Value)} {oc_power_of kV_power_of dc_power_of pm_power_of cd_power_of ct_power_of : Value}
    (a_power_of : PySem.W.nsIn K mainGlobals "power_of" = some (some (.ref f_power_of))) (l_power_of : K.lookup f_power_of = some ⟨oc_power_of, od_power_of, .func (PySem.W.fnOf "power_of" "power_of" (defArgs s_power_of) (defBody s_power_of) (defScope s_power_of) .none kV_power_of dc_power_of pm_power_of an_power_of cd_power_of ct_power_of), sl_power_of⟩) (c_power_of : PySem.W.codeIn K cd_power_of "power_of" = true) (k_power_of : PySem.W.keepIn K (.ref f_power_of) = true)
    {f_check_both : Addr} {od_check_both an_check_both : Option Addr} {sl_check_both : Array (Option Value)} {oc_check_both kV_check_both dc_check_both pm_check_both cd_check_both ct_check_both : Value}
    (a_check_both : PySem.W.nsIn K mainGlobals "check_both" = some (some (.ref f_check_both))) (l_check_both : K.lookup f_check_both = some ⟨oc_check_both, od_check_both, .func (PySem.W.fnOf "check_both" "check_both" (defArgs s_check_both) (defBody s_check_both) (defScope s_check_both) .none kV_check_both dc_check_both pm_check_both an_check_both cd_check_both ct_check_both), sl_check_both⟩) (c_check_both : PySem.W.codeIn K cd_check_both "check_both" = true) (k_check_both : PySem.W.keepIn K (.ref f_check_both) = true)
    {f_check_number : Addr} {od_check_number an_check_number : Option Addr} {sl_check_number : Array (Option Value)} {oc_check_number kV_check_number dc_check_number pm_check_number cd_check_number ct_check_number : Value}
    (a_check_number : PySem.W.nsIn K mainGlobals "check_number" = some (some (.ref f_check_number))) (l_check_number : K.lookup f_check_number = some ⟨oc_check_number, od_check_number, .func (PySem.W.fnOf "check_number" "check_number" (defArgs s_check_number) (defBody s_check_number) (defScope s_check_number) .none kV_check_number dc_check_number pm_check_number an_check_number cd_check_number ct_check_number), sl_check_number⟩) (c_check_number : PySem.W.codeIn K cd_check_number "check_number" = true) (k_check_number : PySem.W.keepIn K (.ref f_check_number) = true)
    {f_figures_of : Addr} {od_figures_of an_figures_of : Option Addr} {sl_figures_of : Array (Option Value)} {oc_figures_of kV_figures_of dc_figures_of pm_figures_of cd_figures_of ct_figures_of : Value}
    (a_figures_of : PySem.W.nsIn K mainGlobals "figures_of" = some (some (.ref f_figures_of))) (l_figures_of : K.lookup f_figures_of = some ⟨oc_figures_of, od_figures_of, .func (PySem.W.fnOf "figures_of" "figures_of" (defArgs s_figures_of) (defBody s_figures_of) (defScope s_figures_of) .none kV_figures_of dc_figures_of pm_figures_of an_figures_of cd_figures_of ct_figures_of), sl_figures_of⟩) (c_figures_of : PySem.W.codeIn K cd_figures_of "figures_of" = true) (k_figures_of : PySem.W.keepIn K (.ref f_figures_of) = true)
    {f_written_by : Addr} {od_written_by an_written_by : Option Addr} {sl_written_by : Array (Option Value)} {oc_written_by kV_written_by dc_written_by pm_written_by cd_written_by ct_written_by : Value}
    (a_written_by : PySem.W.nsIn K mainGlobals "written_by" = some (some (.ref f_written_by))) (l_written_by : K.lookup f_written_by = some ⟨oc_written_by, od_written_by, .func (PySem.W.fnOf "written_by" "written_by" (defArgs s_written_by) (defBody s_written_by) (defScope s_written_by) .none kV_written_by dc_written_by pm_written_by an_written_by cd_written_by ct_written_by), sl_written_by⟩) (c_written_by : PySem.W.codeIn K cd_written_by "written_by" = true) (k_written_by : PySem.W.keepIn K (.ref f_written_by) = true)
    {f_step_of : Addr} {od_step_of an_step_of : Option Addr} {sl_step_of : Array (Option Value)} {oc_step_of kV_step_of dc_step_of pm_step_of cd_step_of ct_step_of : Value}
    (a_step_of : PySem.W.nsIn K mainGlobals "step_of" = some (some (.ref f_step_of))) (l_step_of : K.lookup f_step_of = some ⟨oc_step_of, od_step_of, .func (PySem.W.fnOf "step_of" "step_of" (defArgs s_step_of) (defBody s_step_of) (defScope s_step_of) .none kV_step_of dc_step_of pm_step_of an_step_of cd_step_of ct_step_of), sl_step_of⟩) (c_step_of : PySem.W.codeIn K cd_step_of "step_of" = true) (k_step_of : PySem.W.keepIn K (.ref f_step_of) = true)
    {f_step : Addr} {od_step an_step : Option Addr} {sl_step : Array (Option Value)} {oc_step kV_step dc_step pm_step cd_step ct_step : Value}
    (a_step : PySem.W.nsIn K mainGlobals "step" = some (some (.ref f_step))) (l_step : K.lookup f_step = some ⟨oc_step, od_step, .func (PySem.W.fnOf "step" "step" (defArgs s_step) (defBody s_step) (defScope s_step) .none kV_step dc_step pm_step an_step cd_step ct_step), sl_step⟩) (c_step : PySem.W.codeIn K cd_step "step" = true) (k_step : PySem.W.keepIn K (.ref f_step) = true)
    {f_course_of : Addr} {od_course_of an_course_of : Option Addr} {sl_course_of : Array (Option Value)} {oc_course_of kV_course_of dc_course_of pm_course_of cd_course_of ct_course_of : Value}
    (a_course_of : PySem.W.nsIn K mainGlobals "course_of" = some (some (.ref f_course_of))) (l_course_of : K.lookup f_course_of = some ⟨oc_course_of, od_course_of, .func (PySem.W.fnOf "course_of" "course_of" (defArgs s_course_of) (defBody s_course_of) (defScope s_course_of) .none kV_course_of dc_course_of pm_course_of an_course_of cd_course_of ct_course_of), sl_course_of⟩) (c_course_of : PySem.W.codeIn K cd_course_of "course_of" = true) (k_course_of : PySem.W.keepIn K (.ref f_course_of) = true)
    {f_after : Addr} {od_after an_after : Option Addr} {sl_after : Array (Option Value)} {oc_after kV_after dc_after pm_after cd_after ct_after : Value}
    (a_after : PySem.W.nsIn K mainGlobals "after" = some (some (.ref f_after))) (l_after : K.lookup f_after = some ⟨oc_after, od_after, .func (PySem.W.fnOf "after" "after" (defArgs s_after) (defBody s_after) (defScope s_after) .none kV_after dc_after pm_after an_after cd_after ct_after), sl_after⟩) (c_after : PySem.W.codeIn K cd_after "after" = true) (k_after : PySem.W.keepIn K (.ref f_after) = true)
    {f_all_falls : Addr} {od_all_falls an_all_falls : Option Addr} {sl_all_falls : Array (Option Value)} {oc_all_falls kV_all_falls dc_all_falls pm_all_falls cd_all_falls ct_all_falls : Value}
    (a_all_falls : PySem.W.nsIn K mainGlobals "all_falls" = some (some (.ref f_all_falls))) (l_all_falls : K.lookup f_all_falls = some ⟨oc_all_falls, od_all_falls, .func (PySem.W.fnOf "all_falls" "all_falls" (defArgs s_all_falls) (defBody s_all_falls) (defScope s_all_falls) .none kV_all_falls dc_all_falls pm_all_falls an_all_falls cd_all_falls ct_all_falls), sl_all_falls⟩) (c_all_falls : PySem.W.codeIn K cd_all_falls "all_falls" = true) (k_all_falls : PySem.W.keepIn K (.ref f_all_falls) = true)
    {f_made_by : Addr} {od_made_by an_made_by : Option Addr} {sl_made_by : Array (Option Value)} {oc_made_by kV_made_by dc_made_by pm_made_by cd_made_by ct_made_by : Value}
    (a_made_by : PySem.W.nsIn K mainGlobals "made_by" = some (some (.ref f_made_by))) (l_made_by : K.lookup f_made_by = some ⟨oc_made_by, od_made_by, .func (PySem.W.fnOf "made_by" "made_by" (defArgs s_made_by) (defBody s_made_by) (defScope s_made_by) .none kV_made_by dc_made_by pm_made_by an_made_by cd_made_by ct_made_by), sl_made_by⟩) (c_made_by : PySem.W.codeIn K cd_made_by "made_by" = true) (k_made_by : PySem.W.keepIn K (.ref f_made_by) = true)
    {f_differences_to : Addr} {od_differences_to an_differences_to : Option Addr} {sl_differences_to : Array (Option Value)} {oc_differences_to kV_differences_to dc_differences_to pm_differences_to cd_differences_to ct_differences_to : Value}
    (a_differences_to : PySem.W.nsIn K mainGlobals "differences_to" = some (some (.ref f_differences_to))) (l_differences_to : K.lookup f_differences_to = some ⟨oc_differences_to, od_differences_to, .func (PySem.W.fnOf "differences_to" "differences_to" (defArgs s_differences_to) (defBody s_differences_to) (defScope s_differences_to) .none kV_differences_to dc_differences_to pm_differences_to an_differences_to cd_differences_to ct_differences_to), sl_differences_to⟩) (c_differences_to : PySem.W.codeIn K cd_differences_to "differences_to" = true) (k_differences_to : PySem.W.keepIn K (.ref f_differences_to) = true)
    {f_Came_init : Addr} {od_Came_init an_Came_init : Option Addr} {sl_Came_init : Array (Option Value)} {oc_Came_init kV_Came_init dc_Came_init pm_Came_init cd_Came_init ct_Came_init : Value}
    (a_Came_init : PySem.W.findIn K (.ref C_Came) "__init__" = some (some (.ref f_Came_init))) (i_Came_init : PySem.W.isFn K (.ref f_Came_init) = true) (l_Came_init : K.lookup f_Came_init = some ⟨oc_Came_init, od_Came_init, .func (PySem.W.fnOf "__init__" "Came.__init__" (defArgs s_Came_init) (defBody s_Came_init) (defScope s_Came_init) .none kV_Came_init dc_Came_init pm_Came_init an_Came_init cd_Came_init ct_Came_init), sl_Came_init⟩) (c_Came_init : PySem.W.codeIn K cd_Came_init "Came.__init__" = true) (k_Came_init : PySem.W.keepIn K (.ref f_Came_init) = true)
    {f_Came_shows : Addr} {od_Came_shows an_Came_shows : Option Addr} {sl_Came_shows : Array (Option Value)} {oc_Came_shows kV_Came_shows dc_Came_shows pm_Came_shows cd_Came_shows ct_Came_shows : Value}
    (a_Came_shows : PySem.W.findIn K (.ref C_Came) "shows" = some (some (.ref f_Came_shows))) (i_Came_shows : PySem.W.isFn K (.ref f_Came_shows) = true) (l_Came_shows : K.lookup f_Came_shows = some ⟨oc_Came_shows, od_Came_shows, .func (PySem.W.fnOf "shows" "Came.shows" (defArgs s_Came_shows) (defBody s_Came_shows) (defScope s_Came_shows) .none kV_Came_shows dc_Came_shows pm_Came_shows an_Came_shows cd_Came_shows ct_Came_shows), sl_Came_shows⟩) (c_Came_shows : PySem.W.codeIn K cd_Came_shows "Came.shows" = true) (k_Came_shows : PySem.W.keepIn K (.ref f_Came_shows) = true)
    {f_Never_shows : Addr} {od_Never_shows an_Never_shows : Option Addr} {sl_Never_shows : Array (Option Value)} {oc_Never_shows kV_Never_shows dc_Never_shows pm_Never_shows cd_Never_shows ct_Never_shows : Value}
    (a_Never_shows : PySem.W.findIn K (.ref C_Never) "shows" = some (some (.ref f_Never_shows))) (i_Never_shows : PySem.W.isFn K (.ref f_Never_shows) = true) (l_Never_shows : K.lookup f_Never_shows = some ⟨oc_Never_shows, od_Never_shows, .func (PySem.W.fnOf "shows" "Never.shows" (defArgs s_Never_shows) (defBody s_Never_shows) (defScope s_Never_shows) .none kV_Never_shows dc_Never_shows pm_Never_shows an_Never_shows cd_Never_shows ct_Never_shows), sl_Never_shows⟩) (c_Never_shows : PySem.W.codeIn K cd_Never_shows "Never.shows" = true) (k_Never_shows : PySem.W.keepIn K (.ref f_Never_shows) = true)
    {f_came : Addr} {od_came an_came : Option Addr} {sl_came : Array (Option Value)} {oc_came kV_came dc_came pm_came cd_came ct_came : Value}
    (a_came : PySem.W.nsIn K mainGlobals "came" = some (some (.ref f_came))) (l_came : K.lookup f_came = some ⟨oc_came, od_came, .func (PySem.W.fnOf "came" "came" (defArgs s_came) (defBody s_came) (defScope s_came) .none kV_came dc_came pm_came an_came cd_came ct_came), sl_came⟩) (c_came : PySem.W.codeIn K cd_came "came" = true) (k_came : PySem.W.keepIn K (.ref f_came) = true)
    {f_turns_of : Addr} {od_turns_of an_turns_of : Option Addr} {sl_turns_of : Array (Option Value)} {oc_turns_of kV_turns_of dc_turns_of pm_turns_of cd_turns_of ct_turns_of : Value}
    (a_turns_of : PySem.W.nsIn K mainGlobals "turns_of" = some (some (.ref f_turns_of))) (l_turns_of : K.lookup f_turns_of = some ⟨oc_turns_of, od_turns_of, .func (PySem.W.fnOf "turns_of" "turns_of" (defArgs s_turns_of) (defBody s_turns_of) (defScope s_turns_of) .none kV_turns_of dc_turns_of pm_turns_of an_turns_of cd_turns_of ct_turns_of), sl_turns_of⟩) (c_turns_of : PySem.W.codeIn K cd_turns_of "turns_of" = true) (k_turns_of : PySem.W.keepIn K (.ref f_turns_of) = true)
    {f_lows_of : Addr} {od_lows_of an_lows_of : Option Addr} {sl_lows_of : Array (Option Value)} {oc_lows_of kV_lows_of dc_lows_of pm_lows_of cd_lows_of ct_lows_of : Value}
    (a_lows_of : PySem.W.nsIn K mainGlobals "lows_of" = some (some (.ref f_lows_of))) (l_lows_of : K.lookup f_lows_of = some ⟨oc_lows_of, od_lows_of, .func (PySem.W.fnOf "lows_of" "lows_of" (defArgs s_lows_of) (defBody s_lows_of) (defScope s_lows_of) .none kV_lows_of dc_lows_of pm_lows_of an_lows_of cd_lows_of ct_lows_of), sl_lows_of⟩) (c_lows_of : PySem.W.codeIn K cd_lows_of "lows_of" = true) (k_lows_of : PySem.W.keepIn K (.ref f_lows_of) = true)
    {f_many_with : Addr} {od_many_with an_many_with : Option Addr} {sl_many_with : Array (Option Value)} {oc_many_with kV_many_with dc_many_with pm_many_with cd_many_with ct_many_with : Value}
    (a_many_with : PySem.W.nsIn K mainGlobals "many_with" = some (some (.ref f_many_with))) (l_many_with : K.lookup f_many_with = some ⟨oc_many_with, od_many_with, .func (PySem.W.fnOf "many_with" "many_with" (defArgs s_many_with) (defBody s_many_with) (defScope s_many_with) .none kV_many_with dc_many_with pm_many_with an_many_with cd_many_with ct_many_with), sl_many_with⟩) (c_many_with : PySem.W.codeIn K cd_many_with "many_with" = true) (k_many_with : PySem.W.keepIn K (.ref f_many_with) = true)
    {f_came_many : Addr} {od_came_many an_came_many : Option Addr} {sl_came_many : Array (Option Value)} {oc_came_many kV_came_many dc_came_many pm_came_many cd_came_many ct_came_many : Value}
    (a_came_many : PySem.W.nsIn K mainGlobals "came_many" = some (some (.ref f_came_many))) (l_came_many : K.lookup f_came_many = some ⟨oc_came_many, od_came_many, .func (PySem.W.fnOf "came_many" "came_many" (defArgs s_came_many) (defBody s_came_many) (defScope s_came_many) .none kV_came_many dc_came_many pm_came_many an_came_many cd_came_many ct_came_many), sl_came_many⟩) (c_came_many : PySem.W.codeIn K cd_came_many "came_many" = true) (k_came_many : PySem.W.keepIn K (.ref f_came_many) = true)
    {f_least_first : Addr} {od_least_first an_least_first : Option Addr} {sl_least_first : Array (Option Value)} {oc_least_first kV_least_first dc_least_first pm_least_first cd_least_first ct_least_first : Value}
    (a_least_first : PySem.W.nsIn K mainGlobals "least_first" = some (some (.ref f_least_first))) (l_least_first : K.lookup f_least_first = some ⟨oc_least_first, od_least_first, .func (PySem.W.fnOf "least_first" "least_first" (defArgs s_least_first) (defBody s_least_first) (defScope s_least_first) .none kV_least_first dc_least_first pm_least_first an_least_first cd_least_first ct_least_first), sl_least_first⟩) (c_least_first : PySem.W.codeIn K cd_least_first "least_first" = true) (k_least_first : PySem.W.keepIn K (.ref f_least_first) = true)
    {f_round_of : Addr} {od_round_of an_round_of : Option Addr} {sl_round_of : Array (Option Value)} {oc_round_of kV_round_of dc_round_of pm_round_of cd_round_of ct_round_of : Value}
    (a_round_of : PySem.W.nsIn K mainGlobals "round_of" = some (some (.ref f_round_of))) (l_round_of : K.lookup f_round_of = some ⟨oc_round_of, od_round_of, .func (PySem.W.fnOf "round_of" "round_of" (defArgs s_round_of) (defBody s_round_of) (defScope s_round_of) .none kV_round_of dc_round_of pm_round_of an_round_of cd_round_of ct_round_of), sl_round_of⟩) (c_round_of : PySem.W.codeIn K cd_round_of "round_of" = true) (k_round_of : PySem.W.keepIn K (.ref f_round_of) = true)
    {f_led_to : Addr} {od_led_to an_led_to : Option Addr} {sl_led_to : Array (Option Value)} {oc_led_to kV_led_to dc_led_to pm_led_to cd_led_to ct_led_to : Value}
    (a_led_to : PySem.W.nsIn K mainGlobals "led_to" = some (some (.ref f_led_to))) (l_led_to : K.lookup f_led_to = some ⟨oc_led_to, od_led_to, .func (PySem.W.fnOf "led_to" "led_to" (defArgs s_led_to) (defBody s_led_to) (defScope s_led_to) .none kV_led_to dc_led_to pm_led_to an_led_to cd_led_to ct_led_to), sl_led_to⟩) (c_led_to : PySem.W.codeIn K cd_led_to "led_to" = true) (k_led_to : PySem.W.keepIn K (.ref f_led_to) = true)
    {f_rounds : Addr} {od_rounds an_rounds : Option Addr} {sl_rounds : Array (Option Value)} {oc_rounds kV_rounds dc_rounds pm_rounds cd_rounds ct_rounds : Value}
    (a_rounds : PySem.W.nsIn K mainGlobals "rounds" = some (some (.ref f_rounds))) (l_rounds : K.lookup f_rounds = some ⟨oc_rounds, od_rounds, .func (PySem.W.fnOf "rounds" "rounds" (defArgs s_rounds) (defBody s_rounds) (defScope s_rounds) .none kV_rounds dc_rounds pm_rounds an_rounds cd_rounds ct_rounds), sl_rounds⟩) (c_rounds : PySem.W.codeIn K cd_rounds "rounds" = true) (k_rounds : PySem.W.keepIn K (.ref f_rounds) = true)
    {f_falls : Addr} {od_falls an_falls : Option Addr} {sl_falls : Array (Option Value)} {oc_falls kV_falls dc_falls pm_falls cd_falls ct_falls : Value}
    (a_falls : PySem.W.nsIn K mainGlobals "falls" = some (some (.ref f_falls))) (l_falls : K.lookup f_falls = some ⟨oc_falls, od_falls, .func (PySem.W.fnOf "falls" "falls" (defArgs s_falls) (defBody s_falls) (defScope s_falls) .none kV_falls dc_falls pm_falls an_falls cd_falls ct_falls), sl_falls⟩) (c_falls : PySem.W.codeIn K cd_falls "falls" = true) (k_falls : PySem.W.keepIn K (.ref f_falls) = true)
    {f__law_cell_at : Addr} {od__law_cell_at an__law_cell_at : Option Addr} {sl__law_cell_at : Array (Option Value)} {oc__law_cell_at kV__law_cell_at dc__law_cell_at pm__law_cell_at cd__law_cell_at ct__law_cell_at : Value}
    (a__law_cell_at : PySem.W.nsIn K mainGlobals "_law_cell_at" = some (some (.ref f__law_cell_at))) (l__law_cell_at : K.lookup f__law_cell_at = some ⟨oc__law_cell_at, od__law_cell_at, .func (PySem.W.fnOf "_law_cell_at" "_law_cell_at" (defArgs s__law_cell_at) (defBody s__law_cell_at) (defScope s__law_cell_at) .none kV__law_cell_at dc__law_cell_at pm__law_cell_at an__law_cell_at cd__law_cell_at ct__law_cell_at), sl__law_cell_at⟩) (c__law_cell_at : PySem.W.codeIn K cd__law_cell_at "_law_cell_at" = true) (k__law_cell_at : PySem.W.keepIn K (.ref f__law_cell_at) = true)
    {f__law_draw : Addr} {od__law_draw an__law_draw : Option Addr} {sl__law_draw : Array (Option Value)} {oc__law_draw kV__law_draw dc__law_draw pm__law_draw cd__law_draw ct__law_draw : Value}
    (a__law_draw : PySem.W.nsIn K mainGlobals "_law_draw" = some (some (.ref f__law_draw))) (l__law_draw : K.lookup f__law_draw = some ⟨oc__law_draw, od__law_draw, .func (PySem.W.fnOf "_law_draw" "_law_draw" (defArgs s__law_draw) (defBody s__law_draw) (defScope s__law_draw) .none kV__law_draw dc__law_draw pm__law_draw an__law_draw cd__law_draw ct__law_draw), sl__law_draw⟩) (c__law_draw : PySem.W.codeIn K cd__law_draw "_law_draw" = true) (k__law_draw : PySem.W.keepIn K (.ref f__law_draw) = true)
    {f__law_value : Addr} {od__law_value an__law_value : Option Addr} {sl__law_value : Array (Option Value)} {oc__law_value kV__law_value dc__law_value pm__law_value cd__law_value ct__law_value : Value}
    (a__law_value : PySem.W.nsIn K mainGlobals "_law_value" = some (some (.ref f__law_value))) (l__law_value : K.lookup f__law_value = some ⟨oc__law_value, od__law_value, .func (PySem.W.fnOf "_law_value" "_law_value" (defArgs s__law_value) (defBody s__law_value) (defScope s__law_value) .none kV__law_value dc__law_value pm__law_value an__law_value cd__law_value ct__law_value), sl__law_value⟩) (c__law_value : PySem.W.codeIn K cd__law_value "_law_value" = true) (k__law_value : PySem.W.keepIn K (.ref f__law_value) = true)
    {f__law_many : Addr} {od__law_many an__law_many : Option Addr} {sl__law_many : Array (Option Value)} {oc__law_many kV__law_many dc__law_many pm__law_many cd__law_many ct__law_many : Value}
    (a__law_many : PySem.W.nsIn K mainGlobals "_law_many" = some (some (.ref f__law_many))) (l__law_many : K.lookup f__law_many = some ⟨oc__law_many, od__law_many, .func (PySem.W.fnOf "_law_many" "_law_many" (defArgs s__law_many) (defBody s__law_many) (defScope s__law_many) .none kV__law_many dc__law_many pm__law_many an__law_many cd__law_many ct__law_many), sl__law_many⟩) (c__law_many : PySem.W.codeIn K cd__law_many "_law_many" = true) (k__law_many : PySem.W.keepIn K (.ref f__law_many) = true)
    {f__law_all_whole : Addr} {od__law_all_whole an__law_all_whole : Option Addr} {sl__law_all_whole : Array (Option Value)} {oc__law_all_whole kV__law_all_whole dc__law_all_whole pm__law_all_whole cd__law_all_whole ct__law_all_whole : Value}
    (a__law_all_whole : PySem.W.nsIn K mainGlobals "_law_all_whole" = some (some (.ref f__law_all_whole))) (l__law_all_whole : K.lookup f__law_all_whole = some ⟨oc__law_all_whole, od__law_all_whole, .func (PySem.W.fnOf "_law_all_whole" "_law_all_whole" (defArgs s__law_all_whole) (defBody s__law_all_whole) (defScope s__law_all_whole) .none kV__law_all_whole dc__law_all_whole pm__law_all_whole an__law_all_whole cd__law_all_whole ct__law_all_whole), sl__law_all_whole⟩) (c__law_all_whole : PySem.W.codeIn K cd__law_all_whole "_law_all_whole" = true) (k__law_all_whole : PySem.W.keepIn K (.ref f__law_all_whole) = true)
    {f__law_step : Addr} {od__law_step an__law_step : Option Addr} {sl__law_step : Array (Option Value)} {oc__law_step kV__law_step dc__law_step pm__law_step cd__law_step ct__law_step : Value}
    (a__law_step : PySem.W.nsIn K mainGlobals "_law_step" = some (some (.ref f__law_step))) (l__law_step : K.lookup f__law_step = some ⟨oc__law_step, od__law_step, .func (PySem.W.fnOf "_law_step" "_law_step" (defArgs s__law_step) (defBody s__law_step) (defScope s__law_step) .none kV__law_step dc__law_step pm__law_step an__law_step cd__law_step ct__law_step), sl__law_step⟩) (c__law_step : PySem.W.codeIn K cd__law_step "_law_step" = true) (k__law_step : PySem.W.keepIn K (.ref f__law_step) = true)
    {f__law_made : Addr} {od__law_made an__law_made : Option Addr} {sl__law_made : Array (Option Value)} {oc__law_made kV__law_made dc__law_made pm__law_made cd__law_made ct__law_made : Value}
    (a__law_made : PySem.W.nsIn K mainGlobals "_law_made" = some (some (.ref f__law_made))) (l__law_made : K.lookup f__law_made = some ⟨oc__law_made, od__law_made, .func (PySem.W.fnOf "_law_made" "_law_made" (defArgs s__law_made) (defBody s__law_made) (defScope s__law_made) .none kV__law_made dc__law_made pm__law_made an__law_made cd__law_made ct__law_made), sl__law_made⟩) (c__law_made : PySem.W.codeIn K cd__law_made "_law_made" = true) (k__law_made : PySem.W.keepIn K (.ref f__law_made) = true)
    {f__law_rounds : Addr} {od__law_rounds an__law_rounds : Option Addr} {sl__law_rounds : Array (Option Value)} {oc__law_rounds kV__law_rounds dc__law_rounds pm__law_rounds cd__law_rounds ct__law_rounds : Value}
    (a__law_rounds : PySem.W.nsIn K mainGlobals "_law_rounds" = some (some (.ref f__law_rounds))) (l__law_rounds : K.lookup f__law_rounds = some ⟨oc__law_rounds, od__law_rounds, .func (PySem.W.fnOf "_law_rounds" "_law_rounds" (defArgs s__law_rounds) (defBody s__law_rounds) (defScope s__law_rounds) .none kV__law_rounds dc__law_rounds pm__law_rounds an__law_rounds cd__law_rounds ct__law_rounds), sl__law_rounds⟩) (c__law_rounds : PySem.W.codeIn K cd__law_rounds "_law_rounds" = true) (k__law_rounds : PySem.W.keepIn K (.ref f__law_rounds) = true)
    {f__law_all_right : Addr} {od__law_all_right an__law_all_right : Option Addr} {sl__law_all_right : Array (Option Value)} {oc__law_all_right kV__law_all_right dc__law_all_right pm__law_all_right cd__law_all_right ct__law_all_right : Value}
    (a__law_all_right : PySem.W.nsIn K mainGlobals "_law_all_right" = some (some (.ref f__law_all_right))) (l__law_all_right : K.lookup f__law_all_right = some ⟨oc__law_all_right, od__law_all_right, .func (PySem.W.fnOf "_law_all_right" "_law_all_right" (defArgs s__law_all_right) (defBody s__law_all_right) (defScope s__law_all_right) .none kV__law_all_right dc__law_all_right pm__law_all_right an__law_all_right cd__law_all_right ct__law_all_right), sl__law_all_right⟩) (c__law_all_right : PySem.W.codeIn K cd__law_all_right "_law_all_right" = true) (k__law_all_right : PySem.W.keepIn K (.ref f__law_all_right) = true)
    {f__law_way_right : Addr} {od__law_way_right an__law_way_right : Option Addr} {sl__law_way_right : Array (Option Value)} {oc__law_way_right kV__law_way_right dc__law_way_right pm__law_way_right cd__law_way_right ct__law_way_right : Value}
    (a__law_way_right : PySem.W.nsIn K mainGlobals "_law_way_right" = some (some (.ref f__law_way_right))) (l__law_way_right : K.lookup f__law_way_right = some ⟨oc__law_way_right, od__law_way_right, .func (PySem.W.fnOf "_law_way_right" "_law_way_right" (defArgs s__law_way_right) (defBody s__law_way_right) (defScope s__law_way_right) .none kV__law_way_right dc__law_way_right pm__law_way_right an__law_way_right cd__law_way_right ct__law_way_right), sl__law_way_right⟩) (c__law_way_right : PySem.W.codeIn K cd__law_way_right "_law_way_right" = true) (k__law_way_right : PySem.W.keepIn K (.ref f__law_way_right) = true)
    {f__law_came_right : Addr} {od__law_came_right an__law_came_right : Option Addr} {sl__law_came_right : Array (Option Value)} {oc__law_came_right kV__law_came_right dc__law_came_right pm__law_came_right cd__law_came_right ct__law_came_right : Value}
    (a__law_came_right : PySem.W.nsIn K mainGlobals "_law_came_right" = some (some (.ref f__law_came_right))) (l__law_came_right : K.lookup f__law_came_right = some ⟨oc__law_came_right, od__law_came_right, .func (PySem.W.fnOf "_law_came_right" "_law_came_right" (defArgs s__law_came_right) (defBody s__law_came_right) (defScope s__law_came_right) .none kV__law_came_right dc__law_came_right pm__law_came_right an__law_came_right cd__law_came_right ct__law_came_right), sl__law_came_right⟩) (c__law_came_right : PySem.W.codeIn K cd__law_came_right "_law_came_right" = true) (k__law_came_right : PySem.W.keepIn K (.ref f__law_came_right) = true)
    {f_law : Addr} {od_law an_law : Option Addr} {sl_law : Array (Option Value)} {oc_law kV_law dc_law pm_law cd_law ct_law : Value}
    (a_law : PySem.W.nsIn K mainGlobals "law" = some (some (.ref f_law))) (l_law : K.lookup f_law = some ⟨oc_law, od_law, .func (PySem.W.fnOf "law" "law" (defArgs s_law) (defBody s_law) (defScope s_law) .none kV_law dc_law pm_law an_law cd_law ct_law), sl_law⟩) (c_law : PySem.W.codeIn K cd_law "law" = true) (k_law : PySem.W.keepIn K (.ref f_law) = true)
    (z_all : PySem.W.nsIn K mainGlobals "all" = some none)
    (z_bool : PySem.W.nsIn K mainGlobals "bool" = some none)
    (z_enumerate : PySem.W.nsIn K mainGlobals "enumerate" = some none)
    (z_int : PySem.W.nsIn K mainGlobals "int" = some none)
    (z_isinstance : PySem.W.nsIn K mainGlobals "isinstance" = some none)
    (z_len : PySem.W.nsIn K mainGlobals "len" = some none)
    (z_min : PySem.W.nsIn K mainGlobals "min" = some none)
    (z_range : PySem.W.nsIn K mainGlobals "range" = some none)
    (z_sorted : PySem.W.nsIn K mainGlobals "sorted" = some none)
    (z_sum : PySem.W.nsIn K mainGlobals "sum" = some none)
    (z_zip : PySem.W.nsIn K mainGlobals "zip" = some none)
    {t_GREATEST : Tok} (g_GREATEST : PySem.W.nsIn K mainGlobals "GREATEST" = some (some (.int 12 t_GREATEST)))
    {t_LONGEST : Tok} (g_LONGEST : PySem.W.nsIn K mainGlobals "LONGEST" = some (some (.int 8 t_LONGEST)))
    : ∃ fd : FuncData, (∀ (s : Shared) (v : Value), BindsTo s fd ⟨[v], []⟩ [("_law_script", v)]) ∧ ∀ base : Heap, K.In base → base.Ns mainGlobals mg → FnOk P w K mg base CX0 6 fa fd ["_law_script"] (SpLaw K) := by
  have e := hfa.symm.trans (PySem.W.mg_of X G a_law)
  cases e
  have B : Bf K mg := ⟨PySem.W.mg_none_of X G z_all, PySem.W.mg_none_of X G z_bool, PySem.W.mg_none_of X G z_enumerate, PySem.W.mg_none_of X G z_int, PySem.W.mg_none_of X G z_isinstance, PySem.W.mg_none_of X G z_len, PySem.W.mg_none_of X G z_min, PySem.W.mg_none_of X G z_range, PySem.W.mg_none_of X G z_sorted, PySem.W.mg_none_of X G z_sum, PySem.W.mg_none_of X G z_zip, ⟨_, PySem.W.mg_of X G g_GREATEST⟩, ⟨_, PySem.W.mg_of X G g_LONGEST⟩⟩
  have m_Answer := PySem.W.mg_of X G a_Answer
  have e_Answer : cA mg "Answer" = C_Answer := cA_of m_Answer
  have m_Came := PySem.W.mg_of X G a_Came
  have e_Came : cA mg "Came" = C_Came := cA_of m_Came
  have m_Never := PySem.W.mg_of X G a_Never
  have e_Never : cA mg "Never" = C_Never := cA_of m_Never
  have T : Cf K mg := ⟨(by rw [e_Answer]; exact m_Answer), (by rw [e_Came]; exact m_Came), (by rw [e_Never]; exact m_Never), (by rw [e_Came]; exact ⟨pg_Came, hd_Came, po_Came, sa_Came⟩), (by rw [e_Came]; exact ⟨ha_Came, hn_, htk_, hm_Came⟩), (by rw [e_Never]; exact ⟨pg_Never, hd_Never, po_Never, sa_Never⟩), (by rw [e_Never]; exact ⟨ha_Never, hn_, htk_, hm_Never⟩), (by rw [e_Never]; exact ⟨mk_Never, in_Never, kc_Never⟩), (by rw [e_Came]; exact nF_), (by rw [e_Came, e_Answer]; exact is_Came_Answer), (by rw [e_Came]; exact is_Came_Came), (by rw [e_Came, e_Never]; exact is_Came_Never), (by rw [e_Never, e_Answer]; exact is_Never_Answer), (by rw [e_Never, e_Came]; exact is_Never_Came), (by rw [e_Never]; exact is_Never_Never)⟩
  have F_is_whole := fun_mk (st := s_is_whole) l_is_whole c_is_whole k_is_whole
  have b_is_whole := F_is_whole.binds (ps := ["thing"]) fun _ _ _ _ _ _ us hl => match us, hl with | [_], _ => rfl
  have F_power_of := fun_mk (st := s_power_of) l_power_of c_power_of k_power_of
  have b_power_of := F_power_of.binds (ps := ["base", "many"]) fun _ _ _ _ _ _ us hl => match us, hl with | [_, _], _ => rfl
  have F_check_both := fun_mk (st := s_check_both) l_check_both c_check_both k_check_both
  have b_check_both := F_check_both.binds (ps := ["base", "length"]) fun _ _ _ _ _ _ us hl => match us, hl with | [_, _], _ => rfl
  have F_check_number := fun_mk (st := s_check_number) l_check_number c_check_number k_check_number
  have b_check_number := F_check_number.binds (ps := ["base", "length", "number"]) fun _ _ _ _ _ _ us hl => match us, hl with | [_, _, _], _ => rfl
  have F_figures_of := fun_mk (st := s_figures_of) l_figures_of c_figures_of k_figures_of
  have b_figures_of := F_figures_of.binds (ps := ["base", "length", "number"]) fun _ _ _ _ _ _ us hl => match us, hl with | [_, _, _], _ => rfl
  have F_written_by := fun_mk (st := s_written_by) l_written_by c_written_by k_written_by
  have b_written_by := F_written_by.binds (ps := ["base", "figures"]) fun _ _ _ _ _ _ us hl => match us, hl with | [_, _], _ => rfl
  have F_step_of := fun_mk (st := s_step_of) l_step_of c_step_of k_step_of
  have b_step_of := F_step_of.binds (ps := ["base", "length", "number"]) fun _ _ _ _ _ _ us hl => match us, hl with | [_, _, _], _ => rfl
  have F_step := fun_mk (st := s_step) l_step c_step k_step
  have b_step := F_step.binds (ps := ["base", "length", "number"]) fun _ _ _ _ _ _ us hl => match us, hl with | [_, _, _], _ => rfl
  have F_course_of := fun_mk (st := s_course_of) l_course_of c_course_of k_course_of
  have b_course_of := F_course_of.binds (ps := ["base", "length", "number"]) fun _ _ _ _ _ _ us hl => match us, hl with | [_, _, _], _ => rfl
  have F_after := fun_mk (st := s_after) l_after c_after k_after
  have b_after := F_after.binds (ps := ["base", "length", "number", "steps"]) fun _ _ _ _ _ _ us hl => match us, hl with | [_, _, _, _], _ => rfl
  have F_all_falls := fun_mk (st := s_all_falls) l_all_falls c_all_falls k_all_falls
  have b_all_falls := F_all_falls.binds (ps := ["base", "many"]) fun _ _ _ _ _ _ us hl => match us, hl with | [_, _], _ => rfl
  have F_made_by := fun_mk (st := s_made_by) l_made_by c_made_by k_made_by
  have b_made_by := F_made_by.binds (ps := ["base", "length", "differences"]) fun _ _ _ _ _ _ us hl => match us, hl with | [_, _, _], _ => rfl
  have F_differences_to := fun_mk (st := s_differences_to) l_differences_to c_differences_to k_differences_to
  have b_differences_to := F_differences_to.binds (ps := ["base", "length", "number"]) fun _ _ _ _ _ _ us hl => match us, hl with | [_, _, _], _ => rfl
  have F_Came_init := fun_mk (st := s_Came_init) l_Came_init c_Came_init k_Came_init
  have b_Came_init := F_Came_init.binds (ps := ["self", "number"]) fun _ _ _ _ _ _ us hl => match us, hl with | [_, _], _ => rfl
  have F_Came_shows := fun_mk (st := s_Came_shows) l_Came_shows c_Came_shows k_Came_shows
  have b_Came_shows := F_Came_shows.binds (ps := ["self", "base", "length", "number"]) fun _ _ _ _ _ _ us hl => match us, hl with | [_, _, _, _], _ => rfl
  have F_Never_shows := fun_mk (st := s_Never_shows) l_Never_shows c_Never_shows k_Never_shows
  have b_Never_shows := F_Never_shows.binds (ps := ["self", "base", "length", "number"]) fun _ _ _ _ _ _ us hl => match us, hl with | [_, _, _, _], _ => rfl
  have F_came := fun_mk (st := s_came) l_came c_came k_came
  have b_came := F_came.binds (ps := ["base", "length", "number"]) fun _ _ _ _ _ _ us hl => match us, hl with | [_, _, _], _ => rfl
  have F_turns_of := fun_mk (st := s_turns_of) l_turns_of c_turns_of k_turns_of
  have b_turns_of := F_turns_of.binds (ps := ["figures"]) fun _ _ _ _ _ _ us hl => match us, hl with | [_], _ => rfl
  have F_lows_of := fun_mk (st := s_lows_of) l_lows_of c_lows_of k_lows_of
  have b_lows_of := F_lows_of.binds (ps := ["base", "differences"]) fun _ _ _ _ _ _ us hl => match us, hl with | [_, _], _ => rfl
  have F_many_with := fun_mk (st := s_many_with) l_many_with c_many_with k_many_with
  have b_many_with := F_many_with.binds (ps := ["base", "length", "differences"]) fun _ _ _ _ _ _ us hl => match us, hl with | [_, _, _], _ => rfl
  have F_came_many := fun_mk (st := s_came_many) l_came_many c_came_many k_came_many
  have b_came_many := F_came_many.binds (ps := ["base", "length", "number"]) fun _ _ _ _ _ _ us hl => match us, hl with | [_, _, _], _ => rfl
  have F_least_first := fun_mk (st := s_least_first) l_least_first c_least_first k_least_first
  have b_least_first := F_least_first.binds (ps := ["ring"]) fun _ _ _ _ _ _ us hl => match us, hl with | [_], _ => rfl
  have F_round_of := fun_mk (st := s_round_of) l_round_of c_round_of k_round_of
  have b_round_of := F_round_of.binds (ps := ["base", "length", "number"]) fun _ _ _ _ _ _ us hl => match us, hl with | [_, _, _], _ => rfl
  have F_led_to := fun_mk (st := s_led_to) l_led_to c_led_to k_led_to
  have b_led_to := F_led_to.binds (ps := ["base", "length", "number", "known"]) fun _ _ _ _ _ _ us hl => match us, hl with | [_, _, _, _], _ => rfl
  have F_rounds := fun_mk (st := s_rounds) l_rounds c_rounds k_rounds
  have b_rounds := F_rounds.binds (ps := ["base", "length"]) fun _ _ _ _ _ _ us hl => match us, hl with | [_, _], _ => rfl
  have F_falls := fun_mk (st := s_falls) l_falls c_falls k_falls
  have b_falls := F_falls.binds (ps := ["base", "length"]) fun _ _ _ _ _ _ us hl => match us, hl with | [_, _], _ => rfl
  have F__law_cell_at := fun_mk (st := s__law_cell_at) l__law_cell_at c__law_cell_at k__law_cell_at
  have b__law_cell_at := F__law_cell_at.binds (ps := ["_law_script", "_law_k"]) fun _ _ _ _ _ _ us hl => match us, hl with | [_, _], _ => rfl
  have F__law_draw := fun_mk (st := s__law_draw) l__law_draw c__law_draw k__law_draw
  have b__law_draw := F__law_draw.binds (ps := ["_law_cell", "_law_k", "_law_many_here"]) fun _ _ _ _ _ _ us hl => match us, hl with | [_, _, _], _ => rfl
  have F__law_value := fun_mk (st := s__law_value) l__law_value c__law_value k__law_value
  have b__law_value := F__law_value.binds (ps := ["_law_cell", "_law_turn"]) fun _ _ _ _ _ _ us hl => match us, hl with | [_, _], _ => rfl
  have F__law_many := fun_mk (st := s__law_many) l__law_many c__law_many k__law_many
  have b__law_many := F__law_many.binds (ps := ["_law_base", "_law_length"]) fun _ _ _ _ _ _ us hl => match us, hl with | [_, _], _ => rfl
  have F__law_all_whole := fun_mk (st := s__law_all_whole) l__law_all_whole c__law_all_whole k__law_all_whole
  have b__law_all_whole := F__law_all_whole.binds (ps := ["_law_numbers"]) fun _ _ _ _ _ _ us hl => match us, hl with | [_], _ => rfl
  have F__law_step := fun_mk (st := s__law_step) l__law_step c__law_step k__law_step
  have b__law_step := F__law_step.binds (ps := ["_law_base", "_law_length", "_law_number"]) fun _ _ _ _ _ _ us hl => match us, hl with | [_, _, _], _ => rfl
  have F__law_made := fun_mk (st := s__law_made) l__law_made c__law_made k__law_made
  have b__law_made := F__law_made.binds (ps := ["_law_base", "_law_length"]) fun _ _ _ _ _ _ us hl => match us, hl with | [_, _], _ => rfl
  have F__law_rounds := fun_mk (st := s__law_rounds) l__law_rounds c__law_rounds k__law_rounds
  have b__law_rounds := F__law_rounds.binds (ps := ["_law_base", "_law_length"]) fun _ _ _ _ _ _ us hl => match us, hl with | [_, _], _ => rfl
  have F__law_all_right := fun_mk (st := s__law_all_right) l__law_all_right c__law_all_right k__law_all_right
  have b__law_all_right := F__law_all_right.binds (ps := ["_law_base", "_law_length", "_law_due"]) fun _ _ _ _ _ _ us hl => match us, hl with | [_, _, _], _ => rfl
  have F__law_way_right := fun_mk (st := s__law_way_right) l__law_way_right c__law_way_right k__law_way_right
  have b__law_way_right := F__law_way_right.binds (ps := ["_law_base", "_law_length", "_law_number", "_law_far", "_law_every"]) fun _ _ _ _ _ _ us hl => match us, hl with | [_, _, _, _, _], _ => rfl
  have F__law_came_right := fun_mk (st := s__law_came_right) l__law_came_right c__law_came_right k__law_came_right
  have b__law_came_right := F__law_came_right.binds (ps := ["_law_base", "_law_length", "_law_rest"]) fun _ _ _ _ _ _ us hl => match us, hl with | [_, _, _], _ => rfl
  have F_law := fun_mk (st := s_law) l_law c_law k_law
  refine ⟨PySem.W.fnOf "law" "law" (defArgs s_law) (defBody s_law) (defScope s_law) .none kV_law dc_law pm_law an_law cd_law ct_law, fun s v => .of_eq rfl, fun base _ _ => ?_⟩
  have C_is_whole : Fn P w K mg base 1 "is_whole" ["thing"] (sp_is_whole K mg) := ⟨_, _, PySem.W.mg_of X G a_is_whole, ok_is_whole F_is_whole B , F_is_whole.kp, b_is_whole⟩
  have C_power_of : Fn P w K mg base 1 "power_of" ["base", "many"] (sp_power_of K mg) := ⟨_, _, PySem.W.mg_of X G a_power_of, ok_power_of F_power_of B , F_power_of.kp, b_power_of⟩
  have C_check_both : Fn P w K mg base 2 "check_both" ["base", "length"] (sp_check_both K mg) := ⟨_, _, PySem.W.mg_of X G a_check_both, ok_check_both F_check_both B C_is_whole, F_check_both.kp, b_check_both⟩
  have C_check_number : Fn P w K mg base 3 "check_number" ["base", "length", "number"] (sp_check_number K mg) := ⟨_, _, PySem.W.mg_of X G a_check_number, ok_check_number F_check_number B C_check_both C_is_whole C_power_of, F_check_number.kp, b_check_number⟩
  have C_figures_of : Fn P w K mg base 1 "figures_of" ["base", "length", "number"] (sp_figures_of K mg) := ⟨_, _, PySem.W.mg_of X G a_figures_of, ok_figures_of F_figures_of B , F_figures_of.kp, b_figures_of⟩
  have C_written_by : Fn P w K mg base 1 "written_by" ["base", "figures"] (sp_written_by K mg) := ⟨_, _, PySem.W.mg_of X G a_written_by, ok_written_by F_written_by B , F_written_by.kp, b_written_by⟩
  have C_step_of : Fn P w K mg base 2 "step_of" ["base", "length", "number"] (sp_step_of K mg) := ⟨_, _, PySem.W.mg_of X G a_step_of, ok_step_of F_step_of B C_figures_of C_written_by, F_step_of.kp, b_step_of⟩
  have C_step : Fn P w K mg base 4 "step" ["base", "length", "number"] (sp_step K mg) := ⟨_, _, PySem.W.mg_of X G a_step, ok_step F_step B C_check_number C_step_of, F_step.kp, b_step⟩
  have C_course_of : Fn P w K mg base 3 "course_of" ["base", "length", "number"] (sp_course_of K mg) := ⟨_, _, PySem.W.mg_of X G a_course_of, ok_course_of F_course_of B C_step_of, F_course_of.kp, b_course_of⟩
  have C_after : Fn P w K mg base 4 "after" ["base", "length", "number", "steps"] (sp_after K mg) := ⟨_, _, PySem.W.mg_of X G a_after, ok_after F_after B C_check_number C_course_of C_is_whole, F_after.kp, b_after⟩
  have C_all_falls : Fn P w K mg base 1 "all_falls" ["base", "many"] (sp_all_falls K mg) := ⟨_, _, PySem.W.mg_of X G a_all_falls, ok_all_falls F_all_falls B , F_all_falls.kp, b_all_falls⟩
  have C_made_by : Fn P w K mg base 2 "made_by" ["base", "length", "differences"] (sp_made_by K mg) := ⟨_, _, PySem.W.mg_of X G a_made_by, ok_made_by F_made_by B C_power_of, F_made_by.kp, b_made_by⟩
  have C_differences_to : Fn P w K mg base 2 "differences_to" ["base", "length", "number"] (sp_differences_to K mg) := ⟨_, _, PySem.W.mg_of X G a_differences_to, ok_differences_to F_differences_to B C_power_of, F_differences_to.kp, b_differences_to⟩
  have M_Came : Mkr P w K mg base 1 (cA mg "Came") ["self", "number"] (sp_Came_init K mg) := by
    rw [e_Came]
    exact ⟨_, _, ⟨mk_Came, a_Came_init, i_Came_init, kc_Came⟩, ok_Came_init F_Came_init B T , b_Came_init⟩
  have M_Came_shows : Mth P w K mg base 3 (cA mg "Came") "shows" ["self", "base", "length", "number"] (sp_Came_shows K mg) := by
    rw [e_Came]
    exact ⟨_, _, ⟨a_Came_shows, i_Came_shows, k_Came_shows⟩, ok_Came_shows F_Came_shows B T C_step_of C_power_of, b_Came_shows⟩
  have M_Never_shows : Mth P w K mg base 3 (cA mg "Never") "shows" ["self", "base", "length", "number"] (sp_Never_shows K mg) := by
    rw [e_Never]
    exact ⟨_, _, ⟨a_Never_shows, i_Never_shows, k_Never_shows⟩, ok_Never_shows F_Never_shows B T C_differences_to, b_Never_shows⟩
  have C_came : Fn P w K mg base 4 "came" ["base", "length", "number"] (sp_came K mg) := ⟨_, _, PySem.W.mg_of X G a_came, ok_came F_came B T C_check_number C_differences_to C_written_by M_Came, F_came.kp, b_came⟩
  have C_turns_of : Fn P w K mg base 1 "turns_of" ["figures"] (sp_turns_of K mg) := ⟨_, _, PySem.W.mg_of X G a_turns_of, ok_turns_of F_turns_of B , F_turns_of.kp, b_turns_of⟩
  have C_lows_of : Fn P w K mg base 1 "lows_of" ["base", "differences"] (sp_lows_of K mg) := ⟨_, _, PySem.W.mg_of X G a_lows_of, ok_lows_of F_lows_of B , F_lows_of.kp, b_lows_of⟩
  have C_many_with : Fn P w K mg base 2 "many_with" ["base", "length", "differences"] (sp_many_with K mg) := ⟨_, _, PySem.W.mg_of X G a_many_with, ok_many_with F_many_with B C_lows_of C_turns_of, F_many_with.kp, b_many_with⟩
  have C_came_many : Fn P w K mg base 4 "came_many" ["base", "length", "number"] (sp_came_many K mg) := ⟨_, _, PySem.W.mg_of X G a_came_many, ok_came_many F_came_many B C_check_number C_differences_to C_many_with, F_came_many.kp, b_came_many⟩
  have C_least_first : Fn P w K mg base 1 "least_first" ["ring"] (sp_least_first K mg) := ⟨_, _, PySem.W.mg_of X G a_least_first, ok_least_first F_least_first B , F_least_first.kp, b_least_first⟩
  have C_round_of : Fn P w K mg base 4 "round_of" ["base", "length", "number"] (sp_round_of K mg) := ⟨_, _, PySem.W.mg_of X G a_round_of, ok_round_of F_round_of B C_check_number C_course_of, F_round_of.kp, b_round_of⟩
  have C_led_to : Fn P w K mg base 3 "led_to" ["base", "length", "number", "known"] (sp_led_to K mg) := ⟨_, _, PySem.W.mg_of X G a_led_to, ok_led_to F_led_to B C_step_of, F_led_to.kp, b_led_to⟩
  have C_rounds : Fn P w K mg base 4 "rounds" ["base", "length"] (sp_rounds K mg) := ⟨_, _, PySem.W.mg_of X G a_rounds, ok_rounds F_rounds B C_check_both C_all_falls C_led_to C_least_first C_made_by C_course_of, F_rounds.kp, b_rounds⟩
  have C_falls : Fn P w K mg base 4 "falls" ["base", "length"] (sp_falls K mg) := ⟨_, _, PySem.W.mg_of X G a_falls, ok_falls F_falls B C_check_both C_all_falls C_led_to C_made_by C_many_with, F_falls.kp, b_falls⟩
  have C__law_cell_at : Fn P w K mg base 1 "_law_cell_at" ["_law_script", "_law_k"] (sp__law_cell_at K mg) := ⟨_, _, PySem.W.mg_of X G a__law_cell_at, ok__law_cell_at F__law_cell_at B , F__law_cell_at.kp, b__law_cell_at⟩
  have C__law_draw : Fn P w K mg base 1 "_law_draw" ["_law_cell", "_law_k", "_law_many_here"] (sp__law_draw K mg) := ⟨_, _, PySem.W.mg_of X G a__law_draw, ok__law_draw F__law_draw B , F__law_draw.kp, b__law_draw⟩
  have C__law_value : Fn P w K mg base 2 "_law_value" ["_law_cell", "_law_turn"] (sp__law_value K mg) := ⟨_, _, PySem.W.mg_of X G a__law_value, ok__law_value F__law_value B C__law_draw, F__law_value.kp, b__law_value⟩
  have C__law_many : Fn P w K mg base 1 "_law_many" ["_law_base", "_law_length"] (sp__law_many K mg) := ⟨_, _, PySem.W.mg_of X G a__law_many, ok__law_many F__law_many B , F__law_many.kp, b__law_many⟩
  have C__law_all_whole : Fn P w K mg base 1 "_law_all_whole" ["_law_numbers"] (sp__law_all_whole K mg) := ⟨_, _, PySem.W.mg_of X G a__law_all_whole, ok__law_all_whole F__law_all_whole B , F__law_all_whole.kp, b__law_all_whole⟩
  have C__law_step : Fn P w K mg base 1 "_law_step" ["_law_base", "_law_length", "_law_number"] (sp__law_step K mg) := ⟨_, _, PySem.W.mg_of X G a__law_step, ok__law_step F__law_step B , F__law_step.kp, b__law_step⟩
  have C__law_made : Fn P w K mg base 2 "_law_made" ["_law_base", "_law_length"] (sp__law_made K mg) := ⟨_, _, PySem.W.mg_of X G a__law_made, ok__law_made F__law_made B C__law_many, F__law_made.kp, b__law_made⟩
  have C__law_rounds : Fn P w K mg base 3 "_law_rounds" ["_law_base", "_law_length"] (sp__law_rounds K mg) := ⟨_, _, PySem.W.mg_of X G a__law_rounds, ok__law_rounds F__law_rounds B C__law_made C__law_step, F__law_rounds.kp, b__law_rounds⟩
  have C__law_all_right : Fn P w K mg base 5 "_law_all_right" ["_law_base", "_law_length", "_law_due"] (sp__law_all_right K mg) := ⟨_, _, PySem.W.mg_of X G a__law_all_right, ok__law_all_right F__law_all_right B C_rounds C_falls C__law_many C__law_all_whole, F__law_all_right.kp, b__law_all_right⟩
  have C__law_way_right : Fn P w K mg base 5 "_law_way_right" ["_law_base", "_law_length", "_law_number", "_law_far", "_law_every"] (sp__law_way_right K mg) := ⟨_, _, PySem.W.mg_of X G a__law_way_right, ok__law_way_right F__law_way_right B C_round_of C_after C__law_all_whole C__law_step C_step, F__law_way_right.kp, b__law_way_right⟩
  have C__law_came_right : Fn P w K mg base 5 "_law_came_right" ["_law_base", "_law_length", "_law_rest"] (sp__law_came_right K mg) := ⟨_, _, PySem.W.mg_of X G a__law_came_right, ok__law_came_right F__law_came_right B T C__law_step C_came C_came_many C__law_all_whole C_step M_Came M_Came_shows M_Never_shows, F__law_came_right.kp, b__law_came_right⟩
  exact ok_law F_law B T C__law_value C__law_rounds C__law_cell_at C__law_all_right C__law_many C_step C__law_way_right C__law_came_right C__law_step M_Came M_Came_shows
end Sl
open PySem PySem.W PyProof.Rows
set_option maxHeartbeats 0 in
theorem PySem.Challenge.cw_sortless_k10_whole_hard_holds : PySem.Challenge.rw_sortless_k10_whole_hard.Holds := by
  w_on; o_law; k_head; (case hw => w_witness2)
  k_fill
  refine L2.walk_ofB (l := PySem.Challenge.rw_sortless_k10_whole_hard) (n := 63) (k := 6) (x := "_law_script") (CX := fun _ => L2.CX0) (sp := fun w => Sl.SpLaw _) rfl (by decide) rfl ⟨rfl, by decide, by decide⟩ (fun w h Y => PySem.W.kIn_of Y) ?F (fun _ _ a ns hl hb _ hS => ⟨a, ns, rfl, hS, hl, fun z hz => Sl.Bt.of (hb z hz), fun _ => rfl⟩) (fun _ _ _ _ _ h => h)
  case F =>
    intro w mg fa h KX G hmg
    refine' Sl.all_mk KX G hmg ?a_Answer ?a_Came ?a_Never ?pg_Came ?hd_Came ?po_Came ?sa_Came ?mk_Came ?kc_Came ?ha_Came ?hm_Came ?is_Came_Answer ?is_Came_Came ?is_Came_Never ?pg_Never ?hd_Never ?po_Never ?sa_Never ?mk_Never ?kc_Never ?ha_Never ?hm_Never ?is_Never_Answer ?is_Never_Came ?is_Never_Never ?hn_ ?htk_ ?in_Never ?nF_ ?a_is_whole ?l_is_whole ?c_is_whole ?k_is_whole ?a_power_of ?l_power_of ?c_power_of ?k_power_of ?a_check_both ?l_check_both ?c_check_both ?k_check_both ?a_check_number ?l_check_number ?c_check_number ?k_check_number ?a_figures_of ?l_figures_of ?c_figures_of ?k_figures_of ?a_written_by ?l_written_by ?c_written_by ?k_written_by ?a_step_of ?l_step_of ?c_step_of ?k_step_of ?a_step ?l_step ?c_step ?k_step ?a_course_of ?l_course_of ?c_course_of ?k_course_of ?a_after ?l_after ?c_after ?k_after ?a_all_falls ?l_all_falls ?c_all_falls ?k_all_falls ?a_made_by ?l_made_by ?c_made_by ?k_made_by ?a_differences_to ?l_differences_to ?c_differences_to ?k_differences_to ?a_Came_init ?i_Came_init ?l_Came_init ?c_Came_init ?k_Came_init ?a_Came_shows ?i_Came_shows ?l_Came_shows ?c_Came_shows ?k_Came_shows ?a_Never_shows ?i_Never_shows ?l_Never_shows ?c_Never_shows ?k_Never_shows ?a_came ?l_came ?c_came ?k_came ?a_turns_of ?l_turns_of ?c_turns_of ?k_turns_of ?a_lows_of ?l_lows_of ?c_lows_of ?k_lows_of ?a_many_with ?l_many_with ?c_many_with ?k_many_with ?a_came_many ?l_came_many ?c_came_many ?k_came_many ?a_least_first ?l_least_first ?c_least_first ?k_least_first ?a_round_of ?l_round_of ?c_round_of ?k_round_of ?a_led_to ?l_led_to ?c_led_to ?k_led_to ?a_rounds ?l_rounds ?c_rounds ?k_rounds ?a_falls ?l_falls ?c_falls ?k_falls ?a__law_cell_at ?l__law_cell_at ?c__law_cell_at ?k__law_cell_at ?a__law_draw ?l__law_draw ?c__law_draw ?k__law_draw ?a__law_value ?l__law_value ?c__law_value ?k__law_value ?a__law_many ?l__law_many ?c__law_many ?k__law_many ?a__law_all_whole ?l__law_all_whole ?c__law_all_whole ?k__law_all_whole ?a__law_step ?l__law_step ?c__law_step ?k__law_step ?a__law_made ?l__law_made ?c__law_made ?k__law_made ?a__law_rounds ?l__law_rounds ?c__law_rounds ?k__law_rounds ?a__law_all_right ?l__law_all_right ?c__law_all_right ?k__law_all_right ?a__law_way_right ?l__law_way_right ?c__law_way_right ?k__law_way_right ?a__law_came_right ?l__law_came_right ?c__law_came_right ?k__law_came_right ?a_law ?l_law ?c_law ?k_law ?z_all ?z_bool ?z_enumerate ?z_int ?z_isinstance ?z_len ?z_min ?z_range ?z_sorted ?z_sum ?z_zip ?g_GREATEST ?g_LONGEST
    (case a_Answer => k_is)
    (case a_Came => k_is)
    (case a_Never => k_is)
    (case pg_Came => k_is)
    (case hd_Came => k_is)
    (case po_Came => k_is)
    (case sa_Came => k_is)
    (case mk_Came => k_is)
    (case kc_Came => k_is)
    (case ha_Came => k_is)
    (case hm_Came => k_is)
    (case is_Came_Answer => kit_is)
    (case is_Came_Came => kit_is)
    (case is_Came_Never => kit_is)
    (case pg_Never => k_is)
    (case hd_Never => k_is)
    (case po_Never => k_is)
    (case sa_Never => k_is)
    (case mk_Never => k_is)
    (case kc_Never => k_is)
    (case ha_Never => k_is)
    (case hm_Never => k_is)
    (case is_Never_Answer => kit_is)
    (case is_Never_Came => kit_is)
    (case is_Never_Never => kit_is)
    (case hn_ => k_is)
    (case htk_ => k_is)
    (case in_Never => k_is)
    (case nF_ => k_is)
    (case a_is_whole => k_is)
    (case l_is_whole => k_is)
    (case c_is_whole => k_is)
    (case k_is_whole => k_is)
    (case a_power_of => k_is)
    (case l_power_of => k_is)
    (case c_power_of => k_is)
    (case k_power_of => k_is)
    (case a_check_both => k_is)
    (case l_check_both => k_is)
    (case c_check_both => k_is)
    (case k_check_both => k_is)
    (case a_check_number => k_is)
    (case l_check_number => k_is)
    (case c_check_number => k_is)
    (case k_check_number => k_is)
    (case a_figures_of => k_is)
    (case l_figures_of => k_is)
    (case c_figures_of => k_is)
    (case k_figures_of => k_is)
    (case a_written_by => k_is)
    (case l_written_by => k_is)
    (case c_written_by => k_is)
    (case k_written_by => k_is)
    (case a_step_of => k_is)
    (case l_step_of => k_is)
    (case c_step_of => k_is)
    (case k_step_of => k_is)
    (case a_step => k_is)
    (case l_step => k_is)
    (case c_step => k_is)
    (case k_step => k_is)
    (case a_course_of => k_is)
    (case l_course_of => k_is)
    (case c_course_of => k_is)
    (case k_course_of => k_is)
    (case a_after => k_is)
    (case l_after => k_is)
    (case c_after => k_is)
    (case k_after => k_is)
    (case a_all_falls => k_is)
    (case l_all_falls => k_is)
    (case c_all_falls => k_is)
    (case k_all_falls => k_is)
    (case a_made_by => k_is)
    (case l_made_by => k_is)
    (case c_made_by => k_is)
    (case k_made_by => k_is)
    (case a_differences_to => k_is)
    (case l_differences_to => k_is)
    (case c_differences_to => k_is)
    (case k_differences_to => k_is)
    (case a_Came_init => k_is)
    (case i_Came_init => k_is)
    (case l_Came_init => k_is)
    (case c_Came_init => k_is)
    (case k_Came_init => k_is)
    (case a_Came_shows => k_is)
    (case i_Came_shows => k_is)
    (case l_Came_shows => k_is)
    (case c_Came_shows => k_is)
    (case k_Came_shows => k_is)
    (case a_Never_shows => k_is)
    (case i_Never_shows => k_is)
    (case l_Never_shows => k_is)
    (case c_Never_shows => k_is)
    (case k_Never_shows => k_is)
    (case a_came => k_is)
    (case l_came => k_is)
    (case c_came => k_is)
    (case k_came => k_is)
    (case a_turns_of => k_is)
    (case l_turns_of => k_is)
    (case c_turns_of => k_is)
    (case k_turns_of => k_is)
    (case a_lows_of => k_is)
    (case l_lows_of => k_is)
    (case c_lows_of => k_is)
    (case k_lows_of => k_is)
    (case a_many_with => k_is)
    (case l_many_with => k_is)
    (case c_many_with => k_is)
    (case k_many_with => k_is)
    (case a_came_many => k_is)
    (case l_came_many => k_is)
    (case c_came_many => k_is)
    (case k_came_many => k_is)
    (case a_least_first => k_is)
    (case l_least_first => k_is)
    (case c_least_first => k_is)
    (case k_least_first => k_is)
    (case a_round_of => k_is)
    (case l_round_of => k_is)
    (case c_round_of => k_is)
    (case k_round_of => k_is)
    (case a_led_to => k_is)
    (case l_led_to => k_is)
    (case c_led_to => k_is)
    (case k_led_to => k_is)
    (case a_rounds => k_is)
    (case l_rounds => k_is)
    (case c_rounds => k_is)
    (case k_rounds => k_is)
    (case a_falls => k_is)
    (case l_falls => k_is)
    (case c_falls => k_is)
    (case k_falls => k_is)
    (case a__law_cell_at => k_is)
    (case l__law_cell_at => k_is)
    (case c__law_cell_at => k_is)
    (case k__law_cell_at => k_is)
    (case a__law_draw => k_is)
    (case l__law_draw => k_is)
    (case c__law_draw => k_is)
    (case k__law_draw => k_is)
    (case a__law_value => k_is)
    (case l__law_value => k_is)
    (case c__law_value => k_is)
    (case k__law_value => k_is)
    (case a__law_many => k_is)
    (case l__law_many => k_is)
    (case c__law_many => k_is)
    (case k__law_many => k_is)
    (case a__law_all_whole => k_is)
    (case l__law_all_whole => k_is)
    (case c__law_all_whole => k_is)
    (case k__law_all_whole => k_is)
    (case a__law_step => k_is)
    (case l__law_step => k_is)
    (case c__law_step => k_is)
    (case k__law_step => k_is)
    (case a__law_made => k_is)
    (case l__law_made => k_is)
    (case c__law_made => k_is)
    (case k__law_made => k_is)
    (case a__law_rounds => k_is)
    (case l__law_rounds => k_is)
    (case c__law_rounds => k_is)
    (case k__law_rounds => k_is)
    (case a__law_all_right => k_is)
    (case l__law_all_right => k_is)
    (case c__law_all_right => k_is)
    (case k__law_all_right => k_is)
    (case a__law_way_right => k_is)
    (case l__law_way_right => k_is)
    (case c__law_way_right => k_is)
    (case k__law_way_right => k_is)
    (case a__law_came_right => k_is)
    (case l__law_came_right => k_is)
    (case c__law_came_right => k_is)
    (case k__law_came_right => k_is)
    (case a_law => k_is)
    (case l_law => k_is)
    (case c_law => k_is)
    (case k_law => k_is)
    (case z_all => k_is)
    (case z_bool => k_is)
    (case z_enumerate => k_is)
    (case z_int => k_is)
    (case z_isinstance => k_is)
    (case z_len => k_is)
    (case z_min => k_is)
    (case z_range => k_is)
    (case z_sorted => k_is)
    (case z_sum => k_is)
    (case z_zip => k_is)
    (case g_GREATEST => k_is)
    (case g_LONGEST => k_is)
