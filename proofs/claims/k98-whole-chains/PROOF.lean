import PyProof.Rows.All
import Wide.All
import OpenK.AllK
import Wide.FinOn
import HandS.ForMost
import HandS.TupAny
import HandS.Deep
import HandS.IsInst
import HandS.Wide
import HandS.Flow
import HandS.DictComp
import HandS.DictTup
import KE.KDictKeyed
import KE.KeyNested
import KE.KDictCopyH
import PyProof.Rows.TupDisplay
import HandS.TupLen
import HandS.SetFor
import PyProof.FactsAll.tuple
import HandS.HeadHook1
import PySem.Challenge.RW_heardseams_k98_whole_chains_said_out
import KE.KStateDown
import HandS.Base
import HandS.Call
import HandS.Ends
import HandS.More
import HandS.Words
import HandS.WordsExc
import HandS.Defaults
import HandS.Head0
import HandS.Head1
import HandS.Head2
import HandS.HeadEnd
import HandS.HeadHook2
set_option Elab.async false
set_option linter.all false
set_option maxRecDepth 100000
/-! Plain mathematics of chains and doubled phrases; no program in sight. -/
namespace K98
abbrev Row := List Int
abbrev K2 := Row × Row

/-- the last n sounds -/
def lastN (n : Nat) (r : Row) : Row := r.drop (r.length - n)
/-- two rows as they are said when they meet -/
def met (T : K2 → K2) (a b : Nat) (x y : Row) : Row :=
  x.take (x.length - a) ++ ((T (lastN a x, y.take b)).1 ++ ((T (lastN a x, y.take b)).2 ++ y.drop b))
/-- all sounds are in range -/
def InS (S : Int) (r : Row) : Prop := ∀ x ∈ r, 0 ≤ x ∧ x < S
structure TOk (S : Int) (T : K2 → K2) : Prop where
  l1 : ∀ k, (T k).1.length = k.1.length
  l2 : ∀ k, (T k).2.length = k.2.length
  sd : ∀ k, InS S k.1 → InS S k.2 → InS S (T k).1 ∧ InS S (T k).2

theorem InS.app {S : Int} {x y : Row} (hx : InS S x) (hy : InS S y) : InS S (x ++ y) := fun z hz => by
  rcases List.mem_append.mp hz with h | h
  · exact hx z h
  · exact hy z h
theorem InS.take {S : Int} {x : Row} (h : InS S x) (n : Nat) : InS S (x.take n) := fun z hz => h z (List.mem_of_mem_take hz)
theorem InS.drop {S : Int} {x : Row} (h : InS S x) (n : Nat) : InS S (x.drop n) := fun z hz => h z (List.mem_of_mem_drop hz)
theorem InS.last {S : Int} {x : Row} (h : InS S x) (n : Nat) : InS S (lastN n x) := h.drop _

theorem lastN_len (n : Nat) (r : Row) : (lastN n r).length = min n r.length := by
  unfold lastN
  rw [List.length_drop]
  omega
theorem lastN_app {n : Nat} {x y : Row} (h : n ≤ y.length) : lastN n (x ++ y) = lastN n y := by
  unfold lastN
  rw [List.length_append, List.drop_append]
  rw [List.drop_eq_nil_of_le (by omega), List.nil_append]
  congr 1
  omega
theorem lastN_all {n : Nat} {x : Row} (h : x.length ≤ n) : lastN n x = x := by
  unfold lastN
  rw [show x.length - n = 0 by omega, List.drop_zero]
theorem lastN_last (n : Nat) (r : Row) : lastN n (lastN n r) = lastN n r := lastN_all (by rw [lastN_len]; omega)
theorem take_lastN (n : Nat) (r : Row) : r.take (r.length - n) ++ lastN n r = r := List.take_append_drop _ _

section
variable {T : K2 → K2} {S : Int} {a b : Nat}
theorem met_len (h : TOk S T) (x y : Row) : (met T a b x y).length = x.length + y.length := by
  unfold met
  rw [List.length_append, List.length_append, List.length_append, h.l1, h.l2, List.length_take, List.length_drop, lastN_len, List.length_take]
  omega
theorem met_in (h : TOk S T) {x y : Row} (hx : InS S x) (hy : InS S y) : InS S (met T a b x y) := by
  have q := h.sd (lastN a x, y.take b) (hx.last a) (hy.take b)
  exact (hx.take _).app (q.1.app (q.2.app (hy.drop _)))
theorem met_split (x y : Row) : met T a b x y = x.take (x.length - a) ++ met T a b (lastN a x) y := by
  unfold met
  rw [lastN_last, lastN_len, show min a x.length - a = 0 by omega, List.take_zero, List.nil_append]
theorem met_last (h : TOk S T) (x y : Row) (hy : 1 ≤ y.length) : lastN a (met T a b x y) = lastN a (met T a b (lastN a x) y) := by
  rw [met_split x y]
  by_cases hx : a ≤ x.length
  · exact lastN_app (by rw [met_len h, lastN_len]; omega)
  · rw [show x.length - a = 0 by omega, List.take_zero, List.nil_append]
/-- the first sounds stay where the left row is long -/
theorem met_first {x y : Row} (hx : a + b ≤ x.length) : (met T a b x y).take b = x.take b := by
  unfold met
  rw [List.take_append_of_le_length (by rw [List.length_take]; omega), List.take_take]
  congr 1
  omega
end

/-! ### chains -/
def chn (T : K2 → K2) (a b : Nat) (w : Row) : Nat → Row
  | 0 => w
  | k + 1 => met T a b (chn T a b w k) w
/-- the tails -/
def tl (T : K2 → K2) (a b : Nat) (w : Row) : Nat → Row
  | 0 => lastN a w
  | k + 1 => lastN a (met T a b (tl T a b w k) w)
/-- the rows that are cut -/
def rw_ (T : K2 → K2) (a b : Nat) (w : Row) : Nat → Row
  | 0 => w
  | k + 1 => met T a b (tl T a b w k) w
/-- what is settled by the k-th word -/
def fx (T : K2 → K2) (a b : Nat) (w : Row) (k : Nat) : Row := (rw_ T a b w k).take ((rw_ T a b w k).length - a)
/-- what is settled by the first k words -/
def fxs (T : K2 → K2) (a b : Nat) (w : Row) : Nat → Row
  | 0 => []
  | k + 1 => fxs T a b w k ++ fx T a b w k

section
variable {T : K2 → K2} {S : Int} {a b : Nat} {w : Row}
theorem tl_rw (k : Nat) : tl T a b w k = lastN a (rw_ T a b w k) := by cases k <;> rfl
theorem fx_tl (k : Nat) : fx T a b w k ++ tl T a b w k = rw_ T a b w k := by
  rw [tl_rw]
  exact take_lastN _ _
theorem chn_len (h : TOk S T) (k : Nat) : (chn T a b w k).length = (k + 1) * w.length := by
  induction k with
  | zero => simp [chn]
  | succ k ih =>
    rw [chn, met_len h, ih, Nat.succ_mul (k + 1)]
theorem chn_tl (h : TOk S T) (hw : 1 ≤ w.length) (k : Nat) : lastN a (chn T a b w k) = tl T a b w k := by
  induction k with
  | zero => rfl
  | succ k ih =>
    rw [chn, met_last h _ _ hw, ih]
    rfl
theorem tl_len (h : TOk S T) (hw : 1 ≤ w.length) (k : Nat) : (tl T a b w k).length = min a ((k + 1) * w.length) := by
  rw [← chn_tl h hw, lastN_len, chn_len h]
theorem chn_eq (h : TOk S T) (hw : 1 ≤ w.length) (k : Nat) : chn T a b w k = fxs T a b w (k + 1) ++ tl T a b w k := by
  induction k with
  | zero =>
    show w = [] ++ fx T a b w 0 ++ tl T a b w 0
    rw [List.nil_append, fx_tl]
    rfl
  | succ k ih =>
    have e : (chn T a b w k).take ((chn T a b w k).length - a) = fxs T a b w (k + 1) := by
      have h1 := take_lastN a (chn T a b w k)
      rw [chn_tl h hw] at h1
      have h2 := h1.trans ih
      exact List.append_cancel_right h2
    rw [chn, met_split, e, chn_tl h hw]
    show fxs T a b w (k + 1) ++ rw_ T a b w (k + 1) = (fxs T a b w (k + 1) ++ fx T a b w (k + 1)) ++ tl T a b w (k + 1)
    rw [List.append_assoc, fx_tl]
theorem chn_in (h : TOk S T) (hw : InS S w) (k : Nat) : InS S (chn T a b w k) := by
  induction k with
  | zero => exact hw
  | succ k ih => exact met_in h ih hw
theorem tl_in (h : TOk S T) (hw : InS S w) (k : Nat) : InS S (tl T a b w k) := by
  induction k with
  | zero => exact hw.last a
  | succ k ih => exact (met_in h ih hw).last a
theorem rw_len_succ (h : TOk S T) (k : Nat) : (rw_ T a b w (k + 1)).length = (tl T a b w k).length + w.length := met_len h _ _
/-- behind a full tail each word settles as many sounds as it has -/
theorem fx_full (h : TOk S T) {k : Nat} (ht : (tl T a b w k).length = a) : (fx T a b w (k + 1)).length = w.length := by
  unfold fx
  rw [List.length_take, rw_len_succ h, ht]
  omega
theorem fx_eq_take (h : TOk S T) {k : Nat} (ht : (tl T a b w k).length = a) : fx T a b w (k + 1) = (met T a b (tl T a b w k) w).take w.length := by
  unfold fx
  rw [rw_len_succ h, ht, show a + w.length - a = w.length by omega]
  rfl
/-- once two tails are alike all later ones are -/
theorem tl_per {i p : Nat} (e : tl T a b w (i + p) = tl T a b w i) : ∀ k, tl T a b w (i + p + k) = tl T a b w (i + k)
  | 0 => e
  | k + 1 => by
    have ih := tl_per e k
    show lastN a (met T a b (tl T a b w (i + p + k)) w) = lastN a (met T a b (tl T a b w (i + k)) w)
    rw [ih]
theorem tl_pers {i p : Nat} (e : tl T a b w (i + p) = tl T a b w i) (k : Nat) : ∀ m, tl T a b w (i + k + m * p) = tl T a b w (i + k)
  | 0 => by rw [Nat.zero_mul, Nat.add_zero]
  | m + 1 => by
    have ih := tl_pers e k m
    rw [show i + k + (m + 1) * p = i + p + (k + m * p) by rw [Nat.succ_mul]; omega, tl_per e, ← ih]
    congr 1
    omega
/-- the index of the same tail -/
def ixOf (i p n : Nat) : Nat := if n < i + p then n else i + (n - i) % p
theorem ixOf_lt {i p n : Nat} (hp : 0 < p) : ixOf i p n < i + p := by
  unfold ixOf
  split
  · assumption
  · have := Nat.mod_lt (n - i) hp
    omega
theorem tl_ix {i p : Nat} (e : tl T a b w (i + p) = tl T a b w i) (n : Nat) : tl T a b w (ixOf i p n) = tl T a b w n := by
  unfold ixOf
  split
  · rfl
  · have h1 := tl_pers e ((n - i) % p) ((n - i) / p)
    have h2 := Nat.mod_add_div (n - i) p
    rw [← h1]
    congr 1
    rw [Nat.mul_comm]
    omega
/-- a tail that comes again is full -/
theorem tl_again (h : TOk S T) (hw : 1 ≤ w.length) {i p : Nat} (hp : 0 < p) (e : tl T a b w (i + p) = tl T a b w i) : (tl T a b w i).length = a := by
  have h1 := tl_len (a := a) (b := b) h hw i
  have h2 := tl_len (a := a) (b := b) h hw (i + p)
  rw [e] at h2
  rw [h1] at h2 ⊢
  have h3 : (i + 1) * w.length < (i + p + 1) * w.length := Nat.mul_lt_mul_of_pos_right (by omega) hw
  omega
theorem tl_full_mono (h : TOk S T) (hw : 1 ≤ w.length) {i k : Nat} (hk : i ≤ k) (e : (tl T a b w i).length = a) : (tl T a b w k).length = a := by
  have h1 := tl_len (a := a) (b := b) h hw i
  have h2 := tl_len (a := a) (b := b) h hw k
  have h3 : (i + 1) * w.length ≤ (k + 1) * w.length := Nat.mul_le_mul_right _ (by omega)
  omega
theorem fxs_len_full (h : TOk S T) (hw : 1 ≤ w.length) {s : Nat} (hs : (tl T a b w s).length = a) : ∀ m, (fxs T a b w (s + 1 + m)).length = (fxs T a b w (s + 1)).length + m * w.length
  | 0 => by simp
  | m + 1 => by
    have ih := fxs_len_full h hw hs m
    have hf : (fx T a b w (s + 1 + m)).length = w.length := by
      have := fx_full (k := s + m) h (tl_full_mono h hw (Nat.le_add_right s m) hs)
      rw [show s + 1 + m = s + m + 1 by omega]
      exact this
    show (fxs T a b w (s + 1 + m) ++ fx T a b w (s + 1 + m)).length = _
    rw [List.length_append, ih, hf, Nat.succ_mul]
    omega
/-- the first sounds of a chain are those of its first words -/
theorem chn_first (h : TOk S T) (hw : 1 ≤ w.length) {k : Nat} (hk : a + b ≤ k + 1) : ∀ m, (chn T a b w (k + m)).take b = (chn T a b w k).take b
  | 0 => rfl
  | m + 1 => by
    rw [← chn_first h hw hk m]
    show (met T a b (chn T a b w (k + m)) w).take b = _
    refine met_first ?_
    rw [chn_len h]
    have h1 : (k + m + 1) * 1 ≤ (k + m + 1) * w.length := Nat.mul_le_mul_left _ hw
    omega
theorem chn_first' (h : TOk S T) (hw : 1 ≤ w.length) (n : Nat) : (chn T a b w (min n (a + b))).take b = (chn T a b w n).take b := by
  by_cases hn : n ≤ a + b
  · rw [Nat.min_eq_left hn]
  · rw [Nat.min_eq_right (by omega)]
    have := chn_first (a := a) (b := b) (k := a + b) h hw (by omega) (n - (a + b))
    rw [show a + b + (n - (a + b)) = n by omega] at this
    exact this.symm
end

/-! ### the sound at a place, how often a sound stands -/
section
variable {T : K2 → K2} {S : Int} {a b : Nat} {w : Row}
theorem get_fxs_lt {n : Nat} {p : Nat} (h : p < (fxs T a b w n).length) (k : Nat) (y : Row) : (fxs T a b w (n + k) ++ y)[p]? = (fxs T a b w n)[p]? := by
  induction k generalizing y with
  | zero => exact List.getElem?_append_left h
  | succ k ih =>
    show (fxs T a b w (n + k) ++ fx T a b w (n + k) ++ y)[p]? = _
    rw [List.append_assoc]
    exact ih _
/-- the sound at a place, behind the first settled ones, each word settling as many as it has -/
theorem get_mid (h : TOk S T) (hw : 1 ≤ w.length) {s n q : Nat} (hs : (tl T a b w s).length = a) (hq : s + 1 + q / w.length < n + 1) :
    (chn T a b w n)[(fxs T a b w (s + 1)).length + q]? = (fx T a b w (s + 1 + q / w.length))[q % w.length]? := by
  rw [chn_eq h hw]
  have h1 := fxs_len_full (a := a) (b := b) h hw hs (q / w.length)
  have h2 : (fx T a b w (s + 1 + q / w.length)).length = w.length := by
    have := fx_full (k := s + q / w.length) h (tl_full_mono h hw (Nat.le_add_right s _) hs)
    rw [show s + 1 + q / w.length = s + q / w.length + 1 by omega]
    exact this
  have h3 := Nat.mod_lt q (show 0 < w.length by omega)
  have h4 := Nat.mod_add_div q w.length
  have h5 : q / w.length * w.length = w.length * (q / w.length) := Nat.mul_comm _ _
  have e : fxs T a b w (s + 1 + q / w.length + 1) = fxs T a b w (s + 1 + q / w.length) ++ fx T a b w (s + 1 + q / w.length) := rfl
  have hl : (fxs T a b w (s + 1)).length + q < (fxs T a b w (s + 1 + q / w.length + 1)).length := by
    rw [e, List.length_append, h1, h2]
    omega
  have g := get_fxs_lt hl (n - (s + 1 + q / w.length)) (tl T a b w n)
  rw [show s + 1 + q / w.length + 1 + (n - (s + 1 + q / w.length)) = n + 1 by omega] at g
  rw [g, e, List.getElem?_append_right (by rw [h1]; omega), h1]
  congr 1
  omega
/-- the sound at a place in the tail -/
theorem get_tail (h : TOk S T) (hw : 1 ≤ w.length) {n p : Nat} : (chn T a b w n)[(fxs T a b w (n + 1)).length + p]? = (tl T a b w n)[p]? := by
  rw [chn_eq h hw, List.getElem?_append_right (Nat.le_add_right _ _)]
  congr 1
  omega
/-- the sound at a place among the first settled ones -/
theorem get_in (h : TOk S T) (hw : 1 ≤ w.length) {n j q : Nat} (hj : j ≤ n) (h1 : (fxs T a b w j).length ≤ q) (h2 : q - (fxs T a b w j).length < (fx T a b w j).length) : (chn T a b w n)[q]? = (fx T a b w j)[q - (fxs T a b w j).length]? := by
  have e : fxs T a b w (j + 1) = fxs T a b w j ++ fx T a b w j := rfl
  have hl : q < (fxs T a b w (j + 1)).length := by rw [e, List.length_append]; omega
  have g := get_fxs_lt hl (n - j) (tl T a b w n)
  rw [show j + 1 + (n - j) = n + 1 by omega] at g
  rw [chn_eq h hw, g, e, List.getElem?_append_right h1]
theorem fxs_len_st (h : TOk S T) (hw : 1 ≤ w.length) {f : Nat} (hf : (tl T a b w f).length = a) (n : Nat) : (fxs T a b w (n + 1)).length = (fxs T a b w (min f n + 1)).length + (n - min f n) * w.length := by
  by_cases c : f ≤ n
  · rw [Nat.min_eq_left c]
    have := fxs_len_full (a := a) (b := b) h hw hf (n - f)
    rw [show f + 1 + (n - f) = n + 1 by omega] at this
    exact this
  · rw [Nat.min_eq_right (by omega)]
    simp
def sumN (f : Nat → Nat) : Nat → Nat
  | 0 => 0
  | n + 1 => sumN f n + f n
theorem count_fxs (x : Int) (n : Nat) : (fxs T a b w n).count x = sumN (fun k => (fx T a b w k).count x) n := by
  induction n with
  | zero => rfl
  | succ n ih =>
    show (fxs T a b w n ++ fx T a b w n).count x = _
    rw [List.count_append, ih]
    rfl
theorem count_chn (h : TOk S T) (hw : 1 ≤ w.length) (x : Int) (n : Nat) : (chn T a b w n).count x = sumN (fun k => (fx T a b w k).count x) (n + 1) + (tl T a b w n).count x := by
  rw [chn_eq h hw, List.count_append, count_fxs]
theorem sumN_add (f : Nat → Nat) (n : Nat) : ∀ m, sumN f (n + m) = sumN f n + sumN (fun k => f (n + k)) m
  | 0 => rfl
  | m + 1 => by
    show sumN f (n + m) + f (n + m) = _
    rw [sumN_add f n m]
    exact Nat.add_assoc _ _ _
theorem sumN_congr {f g : Nat → Nat} : ∀ {n : Nat}, (∀ k, k < n → f k = g k) → sumN f n = sumN g n
  | 0, _ => rfl
  | n + 1, h => by
    show sumN f n + f n = sumN g n + g n
    rw [sumN_congr (fun k hk => h k (by omega)), h n (by omega)]
/-- a function that comes round: so many rounds and a rest -/
theorem sumN_rounds {g : Nat → Nat} {p : Nat} (hg : ∀ k, g (k + p) = g k) : ∀ (q r : Nat), sumN g (q * p + r) = q * sumN g p + sumN g r
  | 0, r => by rw [Nat.zero_mul, Nat.zero_mul, Nat.zero_add, Nat.zero_add]
  | q + 1, r => by
    have ih := sumN_rounds hg q r
    have e : sumN (fun k => g (p + k)) (q * p + r) = sumN g (q * p + r) := sumN_congr fun k _ => by
      show g (p + k) = g k
      rw [Nat.add_comm]
      exact hg k
    rw [show (q + 1) * p + r = p + (q * p + r) by rw [Nat.succ_mul]; omega, sumN_add, e, ih, Nat.succ_mul]
    omega
theorem sumN_list (f : Nat → Nat) (n : Nat) : (((List.range n).map f).sum) = sumN f n := by
  induction n with
  | zero => rfl
  | succ n ih =>
    rw [List.range_succ, List.map_append, List.sum_append, ih]
    show _ = sumN f n + f n
    simp
end

/-! ### a row of things, each by the one ahead of it -/
section
variable {A : Type} {f : Nat → A} {g : A → A}
theorem it_per (hf : ∀ k, f (k + 1) = g (f k)) {i p : Nat} (e : f (i + p) = f i) : ∀ k, f (i + p + k) = f (i + k)
  | 0 => e
  | k + 1 => by
    show f (i + p + k + 1) = f (i + k + 1)
    rw [hf, hf, it_per hf e k]
theorem it_pers (hf : ∀ k, f (k + 1) = g (f k)) {i p : Nat} (e : f (i + p) = f i) (k : Nat) : ∀ m, f (i + k + m * p) = f (i + k)
  | 0 => by rw [Nat.zero_mul, Nat.add_zero]
  | m + 1 => by
    have ih := it_pers hf e k m
    rw [show i + k + (m + 1) * p = i + p + (k + m * p) by rw [Nat.succ_mul]; omega, it_per hf e, ← ih]
    congr 1
    omega
theorem it_ix (hf : ∀ k, f (k + 1) = g (f k)) {i p : Nat} (e : f (i + p) = f i) (n : Nat) : f (ixOf i p n) = f n := by
  unfold ixOf
  split
  · rfl
  · have h1 := it_pers hf e ((n - i) % p) ((n - i) / p)
    have h2 := Nat.mod_add_div (n - i) p
    rw [← h1]
    congr 1
    rw [Nat.mul_comm]
    omega
end

/-! ### doubled phrases -/
def dbl (T : K2 → K2) (a b : Nat) (w : Row) : Nat → Row
  | 0 => w
  | k + 1 => met T a b (dbl T a b w k) (dbl T a b w k)
def ends (a b : Nat) (r : Row) : K2 := (r.take b, lastN a r)
/-- the summary -/
def summ (a b : Nat) (r : Row) : K2 := if r.length < a + b then (r, []) else (r.take b, lastN a r)
def stand (k : K2) : Row := k.1 ++ k.2
section
variable {T : K2 → K2} {S : Int} {a b : Nat} {w : Row}
theorem stand_short {r : Row} (h : r.length < a + b) : stand (summ a b r) = r := by
  unfold summ
  rw [if_pos h]
  exact List.append_nil r
theorem stand_long {r : Row} (h : ¬ r.length < a + b) : stand (summ a b r) = r.take b ++ lastN a r := by
  unfold summ
  rw [if_neg h]
  rfl
theorem ends_glue {r : Row} (h : a + b ≤ r.length) : ends a b (r.take b ++ lastN a r) = ends a b r := by
  unfold ends
  rw [lastN_app (by rw [lastN_len]; omega), lastN_last, List.take_append_of_le_length (by rw [List.length_take]; omega), List.take_take, Nat.min_self]
theorem ends_stand (r : Row) : ends a b (stand (summ a b r)) = ends a b r := by
  by_cases h : r.length < a + b
  · rw [stand_short h]
  · rw [stand_long h, ends_glue (by omega)]
theorem met_tail {x y : Row} (hy : a + b ≤ y.length) : lastN a (met T a b x y) = lastN a y := by
  unfold met
  rw [← List.append_assoc, ← List.append_assoc, lastN_app (by rw [List.length_drop]; omega)]
  unfold lastN
  rw [List.drop_drop, List.length_drop]
  congr 1
  omega
/-- the ends of long rows stay when they are doubled -/
theorem ends_met {r : Row} (hr : a + b ≤ r.length) : ends a b (met T a b r r) = ends a b r := by
  unfold ends
  rw [met_first hr, met_tail hr]
theorem summ_long {r : Row} (h : a + b ≤ r.length) : summ a b r = ends a b r := if_neg (by omega)
theorem summ_met (h : TOk S T) (r : Row) : summ a b (met T a b (stand (summ a b r)) (stand (summ a b r))) = summ a b (met T a b r r) := by
  by_cases hr : r.length < a + b
  · rw [stand_short hr]
  · have hr2 : a + b ≤ r.length := by omega
    have hl : (r.take b ++ lastN a r).length = a + b := by
      rw [List.length_append, List.length_take, lastN_len]
      omega
    rw [stand_long hr, summ_long (by rw [met_len h, hl]; omega), summ_long (by rw [met_len h]; omega), ends_met (by omega), ends_met hr2, ends_glue hr2]
theorem summ_dbl (h : TOk S T) (k : Nat) : summ a b (dbl T a b w (k + 1)) = summ a b (met T a b (stand (summ a b (dbl T a b w k))) (stand (summ a b (dbl T a b w k)))) := (summ_met h _).symm
theorem dbl_len (h : TOk S T) (hw : 1 ≤ w.length) (k : Nat) : 2 ^ k ≤ (dbl T a b w k).length := by
  induction k with
  | zero => exact hw
  | succ k ih =>
    rw [dbl, met_len h, Nat.pow_succ]
    omega
/-- a long summary comes again at once -/
theorem summ_stay (h : TOk S T) (hw : 1 ≤ w.length) (hab : a + b ≤ 8) {k : Nat} (hk : 3 ≤ k) : summ a b (dbl T a b w (k + 1)) = summ a b (dbl T a b w k) := by
  have h1 := dbl_len (a := a) (b := b) h hw k
  have h2 : 2 ^ 3 ≤ 2 ^ k := Nat.pow_le_pow_right (by decide) hk
  have hr : a + b ≤ (dbl T a b w k).length := by omega
  show summ a b (met T a b (dbl T a b w k) (dbl T a b w k)) = _
  rw [summ_long (by rw [met_len h]; omega), summ_long hr, ends_met hr]

/-! ### the law's own far doubled rows -/
def cut (a b : Nat) (r : Row) : Row := if a + b < r.length then r.take b ++ lastN a r else r
def cdb (T : K2 → K2) (a b : Nat) (w : Row) : Nat → Row
  | 0 => w
  | k + 1 => cut a b (met T a b (cdb T a b w k) (cdb T a b w k))
theorem cut_len {r : Row} (h : a + b < r.length) : (cut a b r).length = a + b := by
  unfold cut
  rw [if_pos h, List.length_append, List.length_take, lastN_len]
  omega
theorem cdb_rel (h : TOk S T) (k : Nat) : cdb T a b w k = dbl T a b w k ∨ (a + b ≤ (cdb T a b w k).length ∧ a + b ≤ (dbl T a b w k).length ∧ ends a b (cdb T a b w k) = ends a b (dbl T a b w k)) := by
  induction k with
  | zero => exact .inl rfl
  | succ k ih =>
    show cut a b (met T a b (cdb T a b w k) (cdb T a b w k)) = met T a b (dbl T a b w k) (dbl T a b w k) ∨ (a + b ≤ (cut a b (met T a b (cdb T a b w k) (cdb T a b w k))).length ∧ a + b ≤ (met T a b (dbl T a b w k) (dbl T a b w k)).length ∧ ends a b (cut a b (met T a b (cdb T a b w k) (cdb T a b w k))) = ends a b (met T a b (dbl T a b w k) (dbl T a b w k)))
    rcases ih with e | ⟨h1, h2, e⟩
    · rw [e]
      by_cases hc : a + b < (met T a b (dbl T a b w k) (dbl T a b w k)).length
      · refine .inr ⟨by rw [cut_len hc]; exact Nat.le_refl _, by omega, ?_⟩
        unfold cut
        rw [if_pos hc, ends_glue (by omega)]
      · refine .inl ?_
        unfold cut
        rw [if_neg hc]
    · right
      have l1 := met_len (a := a) (b := b) h (cdb T a b w k) (cdb T a b w k)
      have l2 := met_len (a := a) (b := b) h (dbl T a b w k) (dbl T a b w k)
      refine ⟨?_, by omega, ?_⟩
      · by_cases hc : a + b < (met T a b (cdb T a b w k) (cdb T a b w k)).length
        · rw [cut_len hc]
          exact Nat.le_refl _
        · unfold cut
          rw [if_neg hc]
          omega
      · have e1 : ends a b (cut a b (met T a b (cdb T a b w k) (cdb T a b w k))) = ends a b (met T a b (cdb T a b w k) (cdb T a b w k)) := by
          unfold cut
          split
          · rw [ends_glue (by omega)]
          · rfl
        rw [e1, ends_met h1, ends_met h2, e]
theorem cdb_ends (h : TOk S T) (k : Nat) : ends a b (cdb T a b w k) = ends a b (dbl T a b w k) := by
  rcases cdb_rel (a := a) (b := b) (w := w) h k with e | ⟨_, _, e⟩
  · rw [e]
  · exact e
theorem cdb_len (h : TOk S T) (hw : 1 ≤ w.length) (k : Nat) : a + b ≤ (cdb T a b w k).length ∨ 2 ^ k ≤ (cdb T a b w k).length := by
  induction k with
  | zero => exact .inr hw
  | succ k ih =>
    have l1 := met_len (a := a) (b := b) h (cdb T a b w k) (cdb T a b w k)
    show a + b ≤ (cut a b (met T a b (cdb T a b w k) (cdb T a b w k))).length ∨ 2 ^ (k + 1) ≤ (cut a b (met T a b (cdb T a b w k) (cdb T a b w k))).length
    by_cases hc : a + b < (met T a b (cdb T a b w k) (cdb T a b w k)).length
    · exact .inl (by rw [cut_len hc]; exact Nat.le_refl _)
    · have e : cut a b (met T a b (cdb T a b w k) (cdb T a b w k)) = met T a b (cdb T a b w k) (cdb T a b w k) := if_neg hc
      rw [e, Nat.pow_succ]
      rcases ih with i | i
      · exact .inl (by omega)
      · exact .inr (by omega)
theorem cdb_len_le (k : Nat) : (cdb T a b w k).length ≤ a + b + w.length := by
  cases k with
  | zero => exact Nat.le_add_left _ _
  | succ k =>
    show (cut a b (met T a b (cdb T a b w k) (cdb T a b w k))).length ≤ _
    by_cases hc : a + b < (met T a b (cdb T a b w k) (cdb T a b w k)).length
    · rw [cut_len hc]
      omega
    · have e : cut a b (met T a b (cdb T a b w k) (cdb T a b w k)) = met T a b (cdb T a b w k) (cdb T a b w k) := if_neg hc
      rw [e]
      omega
theorem glue_self {r : Row} (h : r.length = a + b) : r.take b ++ lastN a r = r := by
  unfold lastN
  rw [show r.length - a = b by omega]
  exact List.take_append_drop _ _
theorem cdb_stay (h : TOk S T) (hw : 1 ≤ w.length) (ha : 1 ≤ a) (hab : a + b ≤ 8) {k : Nat} (hk : 4 ≤ k) : cdb T a b w (k + 1) = cdb T a b w k := by
  obtain ⟨j, rfl⟩ : ∃ j, k = j + 1 := ⟨k - 1, by omega⟩
  have h2 : 2 ^ 3 ≤ 2 ^ j := Nat.pow_le_pow_right (by decide) (by omega)
  have h1 : a + b ≤ (cdb T a b w j).length := by
    rcases cdb_len (a := a) (b := b) h hw j with i | i
    · exact i
    · omega
  have l1 := met_len (a := a) (b := b) h (cdb T a b w j) (cdb T a b w j)
  have e1 : (cdb T a b w (j + 1)).length = a + b := cut_len (by omega)
  have l2 := met_len (a := a) (b := b) h (cdb T a b w (j + 1)) (cdb T a b w (j + 1))
  have e2 : cdb T a b w (j + 1 + 1) = (met T a b (cdb T a b w (j + 1)) (cdb T a b w (j + 1))).take b ++ lastN a (met T a b (cdb T a b w (j + 1)) (cdb T a b w (j + 1))) := if_pos (by omega)
  rw [e2, met_first (by omega), met_tail (by omega), glue_self e1]
end

/-! ### how many rows there can be -/
def enc : Row → Nat
  | [] => 0
  | x :: r => enc r * 9 + (x.toNat + 1)
theorem enc_inj : ∀ {x y : Row}, InS 8 x → InS 8 y → enc x = enc y → x = y
  | [], [], _, _, _ => rfl
  | [], y :: s, _, _, e => by
    have e2 : 0 = enc s * 9 + (y.toNat + 1) := e
    omega
  | x :: r, [], _, _, e => by
    have e2 : enc r * 9 + (x.toNat + 1) = 0 := e
    omega
  | x :: r, y :: s, hx, hy, e => by
    have e2 : enc r * 9 + (x.toNat + 1) = enc s * 9 + (y.toNat + 1) := e
    have h1 := hx x List.mem_cons_self
    have h2 := hy y List.mem_cons_self
    have e3 : enc r = enc s := by omega
    have e4 : x = y := by omega
    rw [e4, enc_inj (fun z hz => hx z (List.mem_cons_of_mem _ hz)) (fun z hz => hy z (List.mem_cons_of_mem _ hz)) e3]
theorem enc_lt : ∀ {x : Row} {m : Nat}, InS 8 x → x.length ≤ m → enc x < 9 ^ m
  | [], m, _, _ => Nat.pow_pos (by decide)
  | x :: r, 0, _, h => by simp at h
  | x :: r, m + 1, hx, h => by
    have h1 := hx x List.mem_cons_self
    have h2 := enc_lt (x := r) (m := m) (fun z hz => hx z (List.mem_cons_of_mem _ hz)) (by simpa using h)
    show enc r * 9 + (x.toNat + 1) < 9 ^ (m + 1)
    rw [Nat.pow_succ]
    omega
theorem nodup_lt : ∀ (N : Nat) (l : List Nat), l.Nodup → (∀ x ∈ l, x < N) → l.length ≤ N
  | 0, l, _, h => by
    cases l with
    | nil => exact Nat.le_refl _
    | cons x r => exact absurd (h x List.mem_cons_self) (Nat.not_lt_zero _)
  | N + 1, l, hn, h => by
    by_cases hm : N ∈ l
    · have h1 := nodup_lt N (l.erase N) (hn.erase N) (fun x hx => by
        have h2 := (List.Nodup.mem_erase_iff hn).mp hx
        have h3 := h x h2.2
        omega)
      rw [List.length_erase_of_mem hm] at h1
      have : 0 < l.length := List.length_pos_of_mem hm
      omega
    · have h1 := nodup_lt N l hn (fun x hx => by
        have h3 := h x hx
        have h4 : x ≠ N := fun e => hm (e ▸ hx)
        omega)
      omega
theorem rows_few {ls : List Row} {m : Nat} (hn : ls.Nodup) (hs : ∀ r ∈ ls, InS 8 r) (hl : ∀ r ∈ ls, r.length ≤ m) : ls.length ≤ 9 ^ m := by
  have h1 : (ls.map enc).Nodup := by
    induction ls with
    | nil => exact List.nodup_nil
    | cons x r ih =>
      rw [List.map_cons, List.nodup_cons]
      rw [List.nodup_cons] at hn
      refine ⟨fun hm => ?_, ih hn.2 (fun z hz => hs z (List.mem_cons_of_mem _ hz)) (fun z hz => hl z (List.mem_cons_of_mem _ hz))⟩
      obtain ⟨y, hy, e⟩ := List.mem_map.mp hm
      have := enc_inj (hs y (List.mem_cons_of_mem _ hy)) (hs x List.mem_cons_self) e
      exact hn.1 (this ▸ hy)
  have h2 := nodup_lt (9 ^ m) (ls.map enc) h1 (fun x hx => by
    obtain ⟨y, hy, e⟩ := List.mem_map.mp hx
    rw [← e]
    exact enc_lt (hs y hy) (hl y hy))
  rwa [List.length_map] at h2
theorem InS.mono {S S' : Int} {r : Row} (h : InS S r) (hS : S ≤ S') : InS S' r := fun x hx => by
  have := h x hx
  omega

/-! ### all sounds of a row, counted -/
theorem count_all (n : Nat) : ∀ r : Row, InS (n : Int) r → sumN (fun s => r.count (s : Int)) n = r.length
  | [], _ => by
    have : ∀ n, sumN (fun s => ([] : Row).count (s : Int)) n = 0 := fun n => by
      induction n with
      | zero => rfl
      | succ n ih =>
        show sumN _ n + ([] : Row).count (n : Int) = 0
        rw [ih]
        rfl
    exact this n
  | x :: r, h => by
    have ih := count_all n r (fun z hz => h z (List.mem_cons_of_mem _ hz))
    have hx := h x List.mem_cons_self
    have key : ∀ m, sumN (fun s => (x :: r).count (s : Int)) m = sumN (fun s => r.count (s : Int)) m + (if x < (m : Int) then 1 else 0) := fun m => by
      induction m with
      | zero =>
        show 0 = 0 + _
        rw [if_neg (by omega)]
      | succ m im =>
        show sumN _ m + (x :: r).count (m : Int) = (sumN _ m + r.count (m : Int)) + _
        rw [im, List.count_cons]
        by_cases e : x = (m : Int)
        · subst e
          rw [if_neg (by omega), if_pos (by simp), if_pos (by omega)]
          omega
        · have e2 : (x == (m : Int)) = false := beq_eq_false_iff_ne.mpr e
          rw [e2]
          by_cases hl : x < (m : Int)
          · rw [if_pos hl, if_neg (by decide), if_pos (by omega)]
            omega
          · rw [if_neg hl, if_neg (by decide), if_neg (by omega)]
            omega
    rw [key, ih, if_pos hx.2]
    rfl
end K98
set_option maxHeartbeats 4000000
/-! Dicts whose keys are pairs of rows (tuples of two tuples of ints), held in the abstract heap. -/
namespace K98
open PySem PySem.Spec PyProof.Rows L2

abbrev St : Type := L2.St
/-! ### rows and pairs of rows in the abstract heap -/
abbrev vr (r : Row) : List V := r.map V.int
/-- a tuple's own object, as it is laid -/
def tobj (its : List Value) : Obj := { cls := .type "tuple", data := .seq its.toArray }
/-- a row: its object is known (it has no dict of its own) -/
def RowAt (H : Hp) (a : Addr) (r : Row) : Prop := ∃ its, H a = some (.frz (tobj its) (.tup (vr r)))
def PairAt (H : Hp) (a : Addr) (k : K2) : Prop := ∃ b c, H a = some (.tup [.ref b, .ref c]) ∧ RowAt H b k.1 ∧ RowAt H c k.2
/-- what never changes -/
def isT : HO → Bool
  | .tup _ => true
  | .frz _ (.tup _) => true
  | _ => false
abbrev Keeps (H H' : Hp) : Prop := ∀ b o, H b = some o → isT o = true → H' b = some o
theorem RowAt.keep {H H' : Hp} {a : Addr} {r : Row} (x : RowAt H a r) (h : Keeps H H') : RowAt H' a r := by
  obtain ⟨its, e⟩ := x
  exact ⟨its, h _ _ e rfl⟩
theorem PairAt.keep {H H' : Hp} {a : Addr} {k : K2} (x : PairAt H a k) (h : Keeps H H') : PairAt H' a k := by
  obtain ⟨b, c, h1, h2, h3⟩ := x
  exact ⟨b, c, h _ _ h1 rfl, h2.keep h, h3.keep h⟩
theorem Keeps.upd {H : Hp} {d : Addr} {o u : HO} (h : H d = some o) (n : isT o = false) : Keeps H (upd H d u) := fun b x e q => by
  rw [upd_ne]
  · exact e
  · intro z
    rw [z, h] at e
    cases e
    rw [n] at q
    cases q
theorem RowAt.sq {K : PySem.W.Frag} {H : Hp} {a : Addr} {r : Row} (x : RowAt H a r) : SqT K H a (vr r) := by
  obtain ⟨its, e⟩ := x
  exact .inl (.inr ⟨_, e⟩)
theorem tobj_ok {P : Program} {w : World} {H : Hp} {h : Heap} {a : Addr} {xs : List V} {its : List Value} (z : xs.length ≤ sizeLine) (rv : Vals xs its) (e : h.get? a = some (tobj its)) : ObjOk P w H h a (.frz (tobj its) (.tup xs)) :=
  ⟨e, z, its, rv, _, e, rfl, _, rfl⟩
theorem vr_inj : ∀ {x y : Row}, vr x = vr y → x = y
  | [], [], _ => rfl
  | [], _ :: _, e => nomatch e
  | _ :: _, [], e => nomatch e
  | a :: x, b :: y, e => by
    have e2 : V.int a :: vr x = V.int b :: vr y := e
    injection e2 with e3 e4
    injection e3 with e5
    rw [e5, vr_inj e4]

/-! ### the kind of keys -/
def kRow (r : Row) : NestedKey := .tup (r.map .num)
def kP (k : K2) : NestedKey := .tup [kRow k.1, kRow k.2]
theorem nums_inj : ∀ {x y : Row}, x.map NestedKey.num = y.map NestedKey.num → x = y
  | [], [], _ => rfl
  | [], _ :: _, e => nomatch e
  | _ :: _, [], e => nomatch e
  | a :: x, b :: y, e => by
    have e2 : NestedKey.num a :: x.map NestedKey.num = NestedKey.num b :: y.map NestedKey.num := e
    injection e2 with e3 e4
    injection e3 with e5
    rw [e5, nums_inj e4]
theorem kP_inj {x y : K2} (e : kP x = kP y) : x = y := by
  obtain ⟨a, b⟩ := x
  obtain ⟨c, d⟩ := y
  have e2 : NestedKey.tup [kRow a, kRow b] = NestedKey.tup [kRow c, kRow d] := e
  injection e2 with e3
  injection e3 with e4 e5
  injection e5 with e6 _
  have e7 : NestedKey.tup (a.map .num) = NestedKey.tup (c.map .num) := e4
  have e8 : NestedKey.tup (b.map .num) = NestedKey.tup (d.map .num) := e6
  injection e7 with e9
  injection e8 with e10
  rw [nums_inj e9, nums_inj e10]
theorem nums_depth : ∀ r : Row, NestedKey.depthAll (r.map NestedKey.num) = 0
  | [] => rfl
  | x :: r => by
    show max (NestedKey.depth (.num x)) (NestedKey.depthAll (r.map NestedKey.num)) = 0
    rw [nums_depth r]
    rfl
theorem kP_depth (k : K2) : (kP k).depth ≤ 8 := by
  have h1 : (kRow k.1).depth = 1 := by
    show NestedKey.depthAll (k.1.map NestedKey.num) + 1 = 1
    rw [nums_depth]
  have h2 : (kRow k.2).depth = 1 := by
    show NestedKey.depthAll (k.2.map NestedKey.num) + 1 = 1
    rw [nums_depth]
  show max (kRow k.1).depth (max (kRow k.2).depth 0) + 1 ≤ 8
  rw [h1, h2]
  decide
theorem nums_are {h : Heap} : ∀ {r : Row} {us : List Value}, Vals (vr r) us → NestedAll h (r.map .num) us
  | [], _, .nil => .nil
  | x :: r, _, .cons q t => by
    obtain ⟨tk, rfl⟩ := q
    exact .cons (.int x tk) (nums_are t)
theorem row_is {P : Program} {w : World} {H : Hp} {h : Heap} {a : Addr} {r : Row} (ok : HOk P w H h) (x : RowAt H a r) : NestedIs h (kRow r) (.ref a) := by
  obtain ⟨ii, e⟩ := x
  obtain ⟨_, _, its, rv, o, h1, h2, n, h3⟩ := (show ObjOk P w H h a (.frz (tobj ii) (.tup (vr r))) from ok a _ e)
  exact .tup h1 h2 h3 (by simpa using nums_are rv)
theorem pair_is {P : Program} {w : World} {H : Hp} {h : Heap} {a : Addr} {k : K2} (ok : HOk P w H h) (x : PairAt H a k) : NestedIs h (kP k) (.ref a) := by
  obtain ⟨b, c, h0, hb, hc⟩ := x
  obtain ⟨_, its, rv, o, h1, h2, n, h3⟩ := (show ObjOk P w H h a (.tup [.ref b, .ref c]) from ok a _ h0)
  refine .tup h1 h2 h3 ?_
  cases rv with
  | cons r1 t1 =>
    cases t1 with
    | cons r2 t2 =>
      cases t2
      cases r1
      cases r2
      exact .cons (row_is ok hb) (.cons (row_is ok hc) .nil)

/-! ### kinds of keys -/
structure KeyS (κ : Type) [DecidableEq κ] where
  kP : κ → NestedKey
  inj : ∀ {x y : κ}, kP x = kP y → x = y
  dep : ∀ k, (kP k).depth ≤ 8
  At : Hp → Addr → κ → Prop
  keep : ∀ {H H' : Hp} {a : Addr} {k : κ}, At H a k → Keeps H H' → At H' a k
  is : ∀ {P : Program} {w : World} {H : Hp} {h : Heap} {a : Addr} {k : κ}, HOk P w H h → At H a k → NestedIs h (kP k) (.ref a)
section
variable {κ : Type} [DecidableEq κ]
theorem kS_dec (ks : KeyS κ) (x y : κ) : decide (ks.kP x = ks.kP y) = decide (x = y) := by
  by_cases h : x = y
  · rw [h, decide_eq_true rfl, decide_eq_true rfl]
  · rw [decide_eq_false h, decide_eq_false fun e => h (ks.inj e)]
def kindS (ks : KeyS κ) (P : Program) (w : World) : HeapKind P w κ where
  is := fun h k a => (nestedKind P w).is h (ks.kP k) a
  hash := fun k => (nestedKind P w).hash (ks.kP k)
  draws := fun k => (nestedKind P w).draws (ks.kP k)
  room := (nestedKind P w).room
  inj := fun hx hy => ks.inj ((nestedKind P w).inj hx hy)
  keeps := fun x ho hd hs => (nestedKind P w).keeps x ho hd hs
  pyHash := fun hu hk h => (nestedKind P w).pyHash hu hk h
  eqBool := fun hu hx hy h => (nestedKind P w).eqBool hu hx hy (by rw [kS_dec]; exact h)
  quiet := fun hk h => (nestedKind P w).quiet hk h
theorem key_is (ks : KeyS κ) {P : Program} {w : World} {H : Hp} {h : Heap} {a : Addr} {k : κ} (ok : HOk P w H h) (x : ks.At H a k) : (kindS ks P w).is h k a := ⟨ks.is ok x, ks.dep k⟩
end
def pairS : KeyS K2 := ⟨kP, kP_inj, kP_depth, PairAt, PairAt.keep, pair_is⟩
theorem kRow_inj {x y : Row} (e : kRow x = kRow y) : x = y := by
  have e2 : NestedKey.tup (x.map .num) = NestedKey.tup (y.map .num) := e
  injection e2 with e3
  exact nums_inj e3
theorem kRow_depth (r : Row) : (kRow r).depth ≤ 8 := by
  show NestedKey.depthAll (r.map NestedKey.num) + 1 ≤ 8
  rw [nums_depth]
  decide
def rowS : KeyS Row := ⟨kRow, kRow_inj, kRow_depth, RowAt, RowAt.keep, row_is⟩
/-! ### the dict -/
section
variable {κ : Type} [DecidableEq κ]
abbrev EntG (κ : Type) := κ × Addr × Value
def phiN (ks : KeyS κ) (P : Program) (w : World) (d : Addr) (xs : List (EntG κ)) : Heap → Prop := fun h => (d == sysModules) = false ∧ ∃ o es ep, h.get? d = some o ∧ o.ExactDict ∧ o.data = .dict es ep ∧ es.toList = xs.map (entryOfKey (kindS ks P w))
def dN (ks : KeyS κ) (P : Program) (w : World) (d : Addr) (xs : List (EntG κ)) : HO := .ext (phiN ks P w d xs)
theorem dN_ok {ks : KeyS κ} {P : Program} {w : World} {H : Hp} {h : Heap} {d : Addr} {xs : List (EntG κ)} (x : phiN ks P w d xs h) : ObjOk P w H h d (dN ks P w d xs) := by
  obtain ⟨hd, o, es, ep, h1, h2, h3, h4⟩ := id x
  refine ⟨x, ⟨o, h1⟩, fun g1 g2 q k => ?_⟩
  obtain ⟨hd', o', es', ep', q1, q2, q3, q4⟩ := q
  exact ⟨hd', o', es', ep', k _ q1, q2, q3, q4⟩
abbrev NT (ks : KeyS κ) (H : Hp) : List (κ × V) → List (EntG κ) → Prop := Paired fun p q => p.1 = q.1 ∧ ks.At H q.2.1 p.1 ∧ RelV p.2 q.2.2
/-- what stands at d may be read as the dict kvs -/
def NRd (ks : KeyS κ) (P : Program) (w : World) (H : Hp) (d : Addr) (kvs : List (κ × V)) : Prop := ∃ xs, Rd H d (dN ks P w d xs) ∧ NT ks H kvs xs ∧ (xs.map (·.1)).Nodup ∧ kvs.length ≤ sizeLine
/-- a dict of ours stands at d -/
def NDict (ks : KeyS κ) (P : Program) (w : World) (H : Hp) (d : Addr) (kvs : List (κ × V)) : Prop := ∃ xs, H d = some (dN ks P w d xs) ∧ NT ks H kvs xs ∧ (xs.map (·.1)).Nodup ∧ kvs.length ≤ sizeLine
theorem NDict.rd {ks : KeyS κ} {P : Program} {w : World} {H : Hp} {d : Addr} {kvs : List (κ × V)} (x : NDict ks P w H d kvs) : NRd ks P w H d kvs := by
  obtain ⟨xs, h, r⟩ := x
  exact ⟨xs, .inl h, r⟩
section
variable {H H' : Hp} {ks : KeyS κ}
theorem NT.val {kvs : List (κ × V)} {xs : List (EntG κ)} (r : NT ks H kvs xs) (k : κ) : RelO (valV kvs k) ((atKey xs k).map (·.2)) := by
  induction r with
  | nil => exact True.intro
  | @cons p q ps qs h t ih =>
    obtain ⟨h1, _, h2⟩ := h
    by_cases e : p.1 = k
    · have e' : q.1 = k := h1.symm.trans e
      have z : atKey (q :: qs) k = some q.2 := by simp [atKey, List.find?_cons, e']
      rw [valV_pos e, z]
      exact h2
    · have e' : ¬ q.1 = k := fun y => e (h1.trans y)
      have z : atKey (q :: qs) k = atKey qs k := by simp [atKey, List.find?_cons, e']
      rw [valV_neg e, z]
      exact ih
theorem NT.repl {kvs : List (κ × V)} {xs : List (EntG κ)} (r : NT ks H kvs xs) (k : κ) {y : V} {u : Value} (ry : RelV y u) : NT ks H (kvs.map fun kv => if kv.1 = k then (kv.1, y) else kv) (xs.map (putAt k u)) := by
  induction r with
  | nil => exact .nil
  | @cons p q ps qs h t ih =>
    rw [List.map_cons, List.map_cons]
    refine .cons ?_ ih
    obtain ⟨h1, h2, h3⟩ := h
    unfold putAt
    by_cases e : p.1 = k
    · rw [if_pos e, if_pos (h1.symm.trans e)]
      exact ⟨h1, h2, ry⟩
    · rw [if_neg e, if_neg (fun z => e (h1.trans z))]
      exact ⟨h1, h2, h3⟩
theorem NT.put {kvs : List (κ × V)} {xs : List (EntG κ)} (r : NT ks H kvs xs) (k : κ) {b : Addr} {y : V} {u : Value} (hb : ks.At H b k) (ry : RelV y u) : NT ks H (putK kvs k y) (storedH xs k b u) := by
  have e : (kvs.any fun kv => decide (kv.1 = k)) = (atKey xs k).isSome := by
    rw [valV_any, (NT.val r k).isSome_eq, Option.isSome_map]
  unfold putK storedH
  rw [e]
  by_cases q : (atKey xs k).isSome = true
  · rw [if_pos q, if_pos q]
    exact NT.repl r k ry
  · rw [if_neg q, if_neg q]
    exact Paired.snoc r ⟨rfl, hb, ry⟩
theorem NT.keep {kvs : List (κ × V)} {xs : List (EntG κ)} (r : NT ks H kvs xs) (ht : Keeps H H') : NT ks H' kvs xs := Paired.mapP r fun _ _ z => ⟨z.1, ks.keep z.2.1 ht, z.2.2⟩
end
theorem NDict.keep {ks : KeyS κ} {P : Program} {w : World} {H H' : Hp} {d : Addr} {kvs : List (κ × V)} (x : NDict ks P w H d kvs) (hd : H' d = H d) (ht : Keeps H H') : NDict ks P w H' d kvs := by
  obtain ⟨xs, h, r, n, z⟩ := x
  exact ⟨xs, hd.trans h, NT.keep r ht, n, z⟩
theorem NDict.same {ks : KeyS κ} {P : Program} {w : World} {H H' : Hp} {d : Addr} {kvs : List (κ × V)} (x : NDict ks P w H d kvs) (s : Same H H') : NDict ks P w H' d kvs := by
  obtain ⟨xs, h, r, n, z⟩ := x
  exact ⟨xs, s _ _ h, NT.keep r fun b o e _ => s _ _ e, n, z⟩
section
variable {P : Program} {w : World} {H : Hp} {h : Heap} {d : Addr} {ks : KeyS κ}
theorem nt_is {kvs : List (κ × V)} {xs : List (EntG κ)} (ok : HOk P w H h) (r : NT ks H kvs xs) : ∀ x ∈ xs, (kindS ks P w).is h x.1 x.2.1 := by
  induction r with
  | nil => intro x hx; exact nomatch hx
  | @cons p q ps qs hq t ih =>
    intro x hx
    rcases List.mem_cons.mp hx with e | hx
    · subst e
      rw [← hq.1]
      exact key_is ks ok hq.2.1
    · exact ih x hx
theorem rd_dN {xs : List (EntG κ)} (ok : HOk P w H h) (e : Rd H d (dN ks P w d xs)) : phiN ks P w d xs h := by
  have q : ObjOk P w H h d (dN ks P w d xs) := e.ok ok
  exact q.1
theorem nrd_of {kvs : List (κ × V)} (ok : HOk P w H h) (e : NRd ks P w H d kvs) : (d == sysModules) = false ∧ kvs.length ≤ sizeLine ∧ ∃ xs, NT ks H kvs xs ∧ h.DictOfH (kindS ks P w) d xs := by
  obtain ⟨xs, hr, r, n, z⟩ := e
  obtain ⟨hd, o, es, ep, h1, h2, h3, h4⟩ := rd_dN ok hr
  exact ⟨hd, z, xs, r, o, es, ep, h1, h2, h3, h4, nt_is ok r, n⟩
/-- the locked dict's own object -/
theorem frzN {o : Obj} {xs : List (EntG κ)} {kvs : List (κ × V)} (ok : HOk P w H h) (e : H d = some (.frz o (dN ks P w d xs))) (r : NT ks H kvs xs) :
    (d == sysModules) = false ∧ h.get? d = some o ∧ o.ExactDict ∧ ∃ (es : Array DictEntry) (ep : Nat), o.data = .dict es ep ∧ es.size = kvs.length ∧ ∀ (i : Nat) (k : κ) (v : V), kvs[i]? = some (k, v) → ∃ (en : DictEntry) (q : Addr), es[i]? = some en ∧ en.key = .ref q ∧ ks.At H q k ∧ RelV v en.val := by
  obtain ⟨ho, q, _⟩ := ok d _ e
  obtain ⟨hd, o', es, ep, h1, h2, h3, h4⟩ := q
  rw [ho] at h1
  cases h1
  refine ⟨hd, ho, h2, es, ep, h3, ?_, fun i k v ei => ?_⟩
  · have l1 : es.size = xs.length := size_of_entries h4
    have l2 : kvs.length = xs.length := Paired.length r
    omega
  · obtain ⟨b, hb, e1, e2, e3⟩ := paired_get r ei
    have z := entry_at h4 i
    rw [hb] at z
    exact ⟨_, b.2.1, z, rfl, e2, e3⟩
end

/-! ### what is asked of the dict, and its stores -/
section
variable {ks : KeyS κ} {X : Cx} {pins : List (Addr × Obj)} {σ : St} {H : Hp} {s : Shared} {d b : Addr} {k : κ} {kvs : List (κ × V)} {v : V} {u r : Value} {A : Around} {E : Value → Shared → Prop}
theorem room8 (hu : A.units + 64 < cLine) : (kindS ks X.prog X.w).room A.in1 := by
  show A.in1.units + 8 < cLine
  have e : A.in1.units = A.units + 1 := rfl
  omega
theorem n_in {Q : Value → Shared → Prop} (hu : A.units + 64 < cLine) (I : Inv X pins σ H s) (g : NRd ks X.prog X.w H d kvs) (hb : ks.At H b k) (h : ∀ s', Inv X pins σ H s' → Q (.bool (valV kvs k).isSome) s') :
    wpAny (model X.prog X.w) A (compareOp .In (.ref b) (.ref d)) Q E s := by
  obtain ⟨hd, z, xs, rel, dd⟩ := nrd_of I.hok g
  refine wpAny_in_heap (room8 hu) (key_is ks I.hok hb) hd dd ?_
  have q := (NT.val rel k).isSome_eq
  rw [Option.isSome_map] at q
  rw [← q]
  exact h _ (I.tok _)
theorem n_getItem {Q : Value → Shared → Prop} (hu : A.units + 64 < cLine) (I : Inv X pins σ H s) (g : NRd ks X.prog X.w H d kvs) (hb : ks.At H b k) (hv : valV kvs k = some v) (h : ∀ w' s', Inv X pins σ H s' → RelV v w' → Q w' s') :
    wpAny (model X.prog X.w) A (getItem (.ref d) (.ref b)) Q E s := by
  obtain ⟨hd, z, xs, rel, dd⟩ := nrd_of I.hok g
  obtain ⟨w', hw, rw'⟩ := RelO.some_of (v := v) (o := (atKey xs k).map (·.2)) (by rw [← hv]; exact NT.val rel k)
  obtain ⟨p, hp, hp2⟩ := Option.map_eq_some_iff.mp hw
  refine wpAny_getItem_heap (room8 hu) (key_is ks I.hok hb) dd hp ?_
  rw [hp2]
  exact h w' _ (I.tok _) rw'
theorem n_get2 {x : V} {Q : Value → Shared → Prop} (hu : A.units + 64 < cLine) (I : Inv X pins σ H s) (g : NRd ks X.prog X.w H d kvs) (hb : ks.At H b k) (rx : RelV x r) (h : ∀ w' s', Inv X pins σ H s' → RelV ((valV kvs k).getD x) w' → Q w' s') :
    wpAny (model X.prog X.w) A (call (.builtin "dict.get") [.ref d, .ref b, r]) Q E s := by
  obtain ⟨hd, z, xs, rel, dd⟩ := nrd_of I.hok g
  refine call_meetsIn PySem.F.slot_dict_get dd.typeIs PySem.F.entry_dict_get (PySem.F.args_dict_get_3 _ _ _) (meetsH_dict_get_default (kindS ks X.prog X.w) d b hd r) ⟨room8 hu, k, xs, key_is ks I.hok hb, dd, h _ _ (I.tok _) ?_⟩
  exact (NT.val rel k).getD rx
/-- the dict behind a store -/
theorem n_after {h' : Heap} {tk : Nat} (I : Inv X pins σ H s) (g : NDict ks X.prog X.w H d kvs) (hb : ks.At H b k) (rv : RelV v r) (hl : kvs.length < sizeLine) {xs : List (EntG κ)} (hH : H d = some (dN ks X.prog X.w d xs)) (rel : NT ks H kvs xs)
    (dd : h'.DictOfH (kindS ks X.prog X.w) d (storedH xs k b r)) (hs : Heap.SameBut d s.heap h') (hd : (d == sysModules) = false) :
    ∃ H', Inv X pins σ H' { s with heap := h', toks := tk } ∧ (∃ ys, H' = upd H d (dN ks X.prog X.w d ys)) ∧ NDict ks X.prog X.w H' d (putK kvs k v) := by
  obtain ⟨q, es, ep, hq, h2, h3, h4, _, h5⟩ := dd
  have nt : Keeps H (upd H d (dN ks X.prog X.w d (storedH xs k b r))) := Keeps.upd hH rfl
  refine ⟨upd H d (dN ks X.prog X.w d (storedH xs k b r)), d_write I (by rw [hH]; exact True.intro) hs ⟨q, hq⟩ (dN_ok ⟨hd, q, es, ep, hq, h2, h3, h4⟩), ⟨_, rfl⟩, storedH xs k b r, upd_same, NT.keep (NT.put rel k hb rv) nt, h5, ?_⟩
  have := length_putK kvs k v
  omega
theorem n_setItem {Q : Unit → Shared → Prop} (hu : A.units + 64 < cLine) (I : Inv X pins σ H s) (g : NDict ks X.prog X.w H d kvs) (hb : ks.At H b k) (rv : RelV v r) (hl : kvs.length < sizeLine)
    (h : ∀ H' s', Inv X pins σ H' s' → (∃ ys, H' = upd H d (dN ks X.prog X.w d ys)) → NDict ks X.prog X.w H' d (putK kvs k v) → Q () s') : wpAny (model X.prog X.w) A (setItem (.ref d) (.ref b) r) Q E s := by
  obtain ⟨hd, z, _, _, _⟩ := nrd_of I.hok g.rd
  obtain ⟨xs, hH, rel, nd, _⟩ := id g
  have dd : s.heap.DictOfH (kindS ks X.prog X.w) d xs := by
    obtain ⟨_, o, es, ep, h1, h2, h3, h4⟩ := rd_dN I.hok (.inl hH)
    exact ⟨o, es, ep, h1, h2, h3, h4, nt_is I.hok rel, nd⟩
  have hz : xs.length ≤ sizeLine := by rw [← Paired.length rel]; exact z
  refine wpAny_setItem_heap (hsz := hz) (room8 hu) (key_is ks I.hok hb) dd fun h' dd' hs => ?_
  obtain ⟨H', I', e, g'⟩ := n_after (tk := s.toks + (kindS ks X.prog X.w).draws k) I g hb rv hl hH rel dd' hs hd
  exact h H' _ I' e g'
theorem n_dictSet {Q : Unit → Shared → Prop} (hu : A.units + 64 < cLine) (I : Inv X pins σ H s) (g : NDict ks X.prog X.w H d kvs) (hb : ks.At H b k) (rv : RelV v r) (hl : kvs.length < sizeLine)
    (h : ∀ H' s', Inv X pins σ H' s' → (∃ ys, H' = upd H d (dN ks X.prog X.w d ys)) → NDict ks X.prog X.w H' d (putK kvs k v) → Q () s') : wpAny (model X.prog X.w) A (dictSet d (.ref b) r) Q E s := by
  obtain ⟨hd, z, _, _, _⟩ := nrd_of I.hok g.rd
  obtain ⟨xs, hH, rel, nd, _⟩ := id g
  have dd : s.heap.DictOfH (kindS ks X.prog X.w) d xs := by
    obtain ⟨_, o, es, ep, h1, h2, h3, h4⟩ := rd_dN I.hok (.inl hH)
    exact ⟨o, es, ep, h1, h2, h3, h4, nt_is I.hok rel, nd⟩
  have hz : xs.length ≤ sizeLine := by rw [← Paired.length rel]; exact z
  have hr : (kindS ks X.prog X.w).room A := by
    show A.units + 8 < cLine
    omega
  refine wpAny_dictSet_heap (hsz := hz) hr (key_is ks I.hok hb) dd fun h' dd' hs => ?_
  obtain ⟨H', I', e, g'⟩ := n_after (tk := s.toks + (kindS ks X.prog X.w).draws k) I g hb rv hl hH rel dd' hs hd
  exact h H' _ I' e g'
theorem n_typeIs (I : Inv X pins σ H s) (g : NRd ks X.prog X.w H d kvs) : s.TypeIs (.ref d) "dict" := by
  obtain ⟨_, _, xs, _, dd⟩ := nrd_of I.hok g
  exact dd.typeIs
theorem n_noDict (I : Inv X pins σ H s) (g : NRd ks X.prog X.w H d kvs) : ∀ c, Value.ref d = .ref c → ∃ ob, s.heap.get? c = some ob ∧ ob.dict = none := fun c q => by
  cases q
  obtain ⟨_, _, xs, _, ob, _, _, h1, h2, _⟩ := nrd_of I.hok g
  exact ⟨ob, h1, h2.2.1⟩
theorem n_empty {P : Program} {w : World} {H : Hp} (h : Heap) (hb : sysModules < h.objs.size) : ObjOk P w H (h.push { cls := .type "dict", data := .dict #[] }) h.objs.size (dN ks P w h.objs.size []) :=
  dN_ok ⟨beq_eq_false_iff_ne.mpr (Ne.symm (Nat.ne_of_lt hb)), _, #[], 0, Heap.get?_push_size _ rfl, ⟨rfl, rfl, rfl⟩, rfl, rfl⟩
theorem NDict.new {P : Program} {w : World} {H : Hp} {p : Addr} : NDict ks P w (upd H p (dN ks P w p [])) p [] := ⟨[], upd_same, .nil, List.nodup_nil, Nat.zero_le _⟩
end

/-! ### rules -/
def tNNew (ks : KeyS κ) (P : Program) (w : World) : TE := fun _ H Q => ∀ p, H p = none → Q (.ref p) (upd H p (dN ks P w p []))
def tNGet (ks : KeyS κ) (P : Program) (w : World) (td ty : TE) : TE := fun σ H Q => td σ H fun x H1 => ty σ H1 fun y H2 => ∃ a b k kvs v, x = .ref a ∧ y = .ref b ∧ NRd ks P w H2 a kvs ∧ ks.At H2 b k ∧ valV kvs k = some v ∧ Q v H2
def tNIn (ks : KeyS κ) (P : Program) (w : World) (ty td : TE) : TE := fun σ H Q => ty σ H fun y H1 => td σ H1 fun x H2 => ∃ a b k kvs, x = .ref a ∧ y = .ref b ∧ NRd ks P w H2 a kvs ∧ ks.At H2 b k ∧ Q (.bl (valV kvs k).isSome) H2
def sNPut (ks : KeyS κ) (P : Program) (w : World) (td ty tv : TE) : TS := fun D σ H => tv σ H fun v H1 => td σ H1 fun x H2 => ty σ H2 fun y H3 => ∃ a b k kvs, x = .ref a ∧ y = .ref b ∧ NDict ks P w H3 a kvs ∧ ks.At H3 b k ∧ kvs.length < sizeLine ∧
  ∀ H', (∃ ys, H' = upd H3 a (dN ks P w a ys)) → NDict ks P w H' a (putK kvs k v) → D.nx σ H'
def tNGet2 (ks : KeyS κ) (P : Program) (w : World) (td ty tx : TE) : TE := fun σ H Q => td σ H fun x H1 => ∃ a kv1, x = .ref a ∧ NRd ks P w H1 a kv1 ∧ ty σ H1 fun y H2 => tx σ H2 fun z H3 => ∃ b k kvs, y = .ref b ∧ NRd ks P w H3 a kvs ∧ ks.At H3 b k ∧ Q ((valV kvs k).getD z) H3
section
variable (ks : KeyS κ) {X : Cx} {o i e f value : Expr} {pos pos' apos cpos : Pos} {td ty tv tx : TE}
theorem pe_nnew : PE X (.Dict [] [] pos) (tNNew ks X.prog X.w) := ⟨fun pins s σ H Q I h =>
  wpAny_Dict_empty ⟨.ref s.heap.objs.size, _, I.laid (a := s.heap.objs.size) (o := dN ks X.prog X.w s.heap.objs.size []) (t' := s.toks) (fun _ _ q => Heap.get?_push_of_some _ q) (Nat.le_refl _) (n_empty s.heap I.big), rfl, h _ (I.hok.fresh (Nat.le_refl _))⟩⟩
theorem pe_nget (hu : X.A.units + 64 < cLine) (ho : PE X o td) (hi : PE X i ty) (hs : NoSl i) : PE X (.Subscript o i pos) (tNGet ks X.prog X.w td ty) := by
  refine ⟨fun pins s σ H Q I h => ?_⟩
  refine subD_of PySem.F.slot_dict_getitem.lookup hs (thn (ho.run pins s σ H _ I h) fun u s1 ⟨x, H1, I1, rx, q1⟩ => thn (hi.run pins s1 σ H1 _ I1 q1) fun iv s2 ⟨y, H2, I2, ry, a, b, k, kvs, v, ex, ey, g, hb, hv, q2⟩ => ?_)
  subst ex ey
  cases rx
  cases ry
  exact ⟨n_typeIs I2 g, n_getItem hu I2 g hb hv fun w' s3 I3 rw' => ⟨v, H2, I3, rw', q2⟩⟩
theorem pc_nin (hu : X.A.units + 64 < cLine) (hi : PE X i ty) (ho : PE X o td) : PC X .In i o (tNIn ks X.prog X.w ty td) := by
  refine ⟨fun pins s σ H Q I h => ?_⟩
  refine thn (hi.run pins s σ H _ I h) fun iv s1 ⟨y, H1, I1, ry, q1⟩ => thn (ho.run pins s1 σ H1 _ I1 q1) fun u s2 ⟨x, H2, I2, rx, a, b, k, kvs, ex, ey, g, hb, q2⟩ => ?_
  subst ex ey
  cases rx
  cases ry
  exact n_in hu I2 g hb fun s3 I3 => ⟨.bl _, H2, I3, rfl, q2⟩
theorem ps_nput (hu : X.A.units + 64 < cLine) (ho : PE X o td) (hi : PE X i ty) (hv : PE X value tv) (hs : swapsWith value (some (.Subscript o i pos')) pos.line X.env = pure false) :
    PS X (.Assign [.Subscript o i pos'] value pos) (sNPut ks X.prog X.w td ty tv) := by
  refine ⟨fun pins s σ H D I h => ?_⟩
  refine wpAny_Assign_Subscript (thn (hv.run pins s σ H _ I h) fun r s1 ⟨v, H1, I1, rv, q1⟩ => thn (ho.run pins s1 σ H1 _ I1 q1) fun u s2 ⟨x, H2, I2, rx, q2⟩ => thn (hi.run pins s2 σ H2 _ I2 q2) fun iv s3 ⟨y, H3, I3, ry, a, b, k, kvs, ex, ey, g, hb, hl, q3⟩ => ?_) hs
  subst ex ey
  cases rx
  cases ry
  exact n_setItem hu I3 g hb rv hl fun H' s4 I4 eH g' => ⟨σ, H', I4, q3 H' eH g'⟩
theorem pe_nget2 (hu : X.A.units + 64 < cLine) (ho : PE X o td) (he : PE X e ty) (hf : PE X f tx) (m : M2 X o "get" apos e f cpos) : PE X (.Call (.Attribute o "get" apos) [e, f] [] cpos) (tNGet2 ks X.prog X.w td ty tx) := by
  refine ⟨fun pins s σ H Q I h => ?_⟩
  refine wpAny_Call_method m.base m.few m.line PySem.F.plainAttrs_dict PySem.F.slot_dict_get PySem.F.type_dict_get (thn (ho.run pins s σ H _ I h) fun u s1 ⟨x, H1, I1, rx, a, kv1, ex, d, q1⟩ => ?_)
  subst ex
  cases rx
  refine ⟨n_typeIs I1 d, n_noDict I1 d, ?_⟩
  rw [m.trees]
  refine Calls.callWith_builtin rfl (Calls.evalArgs_plain (Calls.spliced_cons (thn (he.run pins s1 σ H1 _ I1 q1) fun iv s2 ⟨y, H2, I2, ry, q2⟩ =>
    Calls.spliced_cons (thn (hf.run pins s2 σ H2 _ I2 q2) fun fv s3 ⟨z, H3, I3, rz, b, k, kvs, ey, g, hb, q3⟩ => Calls.spliced_nil ?_))))
  subst ey
  cases ry
  exact n_get2 hu I3 g hb rz fun w' s4 I4 rw' => ⟨_, H3, I4, rw', q3⟩
end
end
end K98
/-! Dicts whose keys are pairs of rows: walked, made by a comprehension, displayed, measured. -/
namespace K98
open PySem PySem.Spec PyProof.Rows L2

/-! ### walks over the locked dict -/
section
variable {κ : Type} [DecidableEq κ]
def NFz (ks : KeyS κ) (P : Program) (w : World) (H : Hp) (d : Addr) (o : Obj) (kvs : List (κ × V)) : Prop := ∃ xs, H d = some (.frz o (dN ks P w d xs)) ∧ NT ks H kvs xs
/-- the keys -/
def Itn (ks : KeyS κ) (P : Program) (w : World) (d : Addr) (o : Obj) (kvs : List (κ × V)) : It :=
  ⟨fun i H => NFz ks P w H d o kvs ∧ i < kvs.length, fun i H x H' => H' = H ∧ ∃ (k : κ) (v : V) (q : Addr), kvs[i]? = some (k, v) ∧ x = .ref q ∧ ks.At H q k, fun i H => NFz ks P w H d o kvs ∧ kvs.length ≤ i⟩
/-- the pairs, each a new tuple -/
def Itp (ks : KeyS κ) (P : Program) (w : World) (d : Addr) (o : Obj) (kvs : List (κ × V)) : It :=
  ⟨fun i H => NFz ks P w H d o kvs ∧ i < kvs.length, fun i H x H' => ∃ (T : Addr) (k : κ) (v : V) (q : Addr), kvs[i]? = some (k, v) ∧ x = .ref T ∧ ks.At H q k ∧ H T = none ∧ H' = upd H T (.tup [.ref q, v]), fun i H => NFz ks P w H d o kvs ∧ kvs.length ≤ i⟩
section
variable {ks : KeyS κ} {P : Program} {w : World} {K : PySem.W.Frag} {tg : Expr} {d : Addr} {o : Obj} {es : Array DictEntry} {ep : Nat} {kvs : List (κ × V)}
theorem turn_nkeys (it : Addr) (hod : o.data = .dict es ep) : Turn P w K tg (Itn ks P w d o kvs) [it] it (fun i h => h.IsKeyIter it d i kvs.length ep) where
  mem := by simp
  obj := fun i h st b hb => by
    have e : b = it := by simpa using hb
    subst e
    obtain ⟨oi, e, c, dd⟩ := st
    exact ⟨oi, e, fun v z => by rw [dd] at z; cases z⟩
  keep := fun i h h' st k => st.at fun oi e => k it (by simp) oi e
  item := by
    intro X hP hw hK hc i pins s σ H E I hf st hg
    subst hP hw hK
    obtain ⟨⟨xs, hd, nt⟩, hi⟩ := hg
    obtain ⟨f0, f1, f2, f3, f4, f5⟩ := hf it (by simp)
    obtain ⟨hs, hgd, hx, es', ep', hdt, hsz, ent⟩ := frzN I.hok hd nt
    obtain ⟨rfl, rfl⟩ := dict_ep hod hdt
    obtain ⟨⟨k, v⟩, hkv⟩ : ∃ p, kvs[i]? = some p := ⟨kvs[i], List.getElem?_eq_getElem hi⟩
    obtain ⟨en, q, hen, hkey, hq, _⟩ := ent i k v hkv
    refine next_key_item st hgd hdt hsz hen fun h' st' sb => ?_
    have I1 : Inv X pins σ H { s with heap := h' } := I.turned (t' := s.toks) (fun b ob hb e => (sb.2 b hb).trans e) f0 f1 f3 f4 f5
    obtain ⟨oi, e, c, dd⟩ := id st'
    exact ⟨en.key, rfl, go_of (s := { s with heap := h' }) e c dd (by decide) ⟨.ref q, H, I1, hkey, ⟨rfl, k, v, q, hkv, rfl, hq⟩, st', fun b hb => (hf b hb).1⟩⟩
  done := by
    intro X hP hw hK hc i pins s σ H E I hf st hg
    subst hP hw hK
    obtain ⟨⟨xs, hd, nt⟩, hi⟩ := hg
    obtain ⟨f0, f1, f2, f3, f4, f5⟩ := hf it (by simp)
    obtain ⟨hs, hgd, hx, es', ep', hdt, hsz, ent⟩ := frzN I.hok hd nt
    obtain ⟨rfl, rfl⟩ := dict_ep hod hdt
    exact next_key_end (I.ok.hd hc) st hgd hdt hsz hi fun h' eb => ⟨rfl, I.turned (t' := s.toks) (fun b ob hb e => eb b ob hb e) f0 f1 f3 f4 f5⟩
  self := fun A i s Q E st h => by
    refine wpAny_pyIter_slot st.typeIs F.slot_dict_keyiterator_iter (wpAny_call_entry F.slot_dict_keyiterator_iter st.typeIs F.entry_dict_keyiterator_iter ?_ (F.args_dict_keyiterator_iter_1 _))
    show wpAny _ _ (ret (.ref it)) _ _ s
    exact wpAny_pure ⟨_, rfl, "dict_keyiterator", _, st.typeIs, F.slot_dict_keyiterator_next.lookup, h⟩
theorem turn_npairs {elts : List Expr} {kk : Nat} {tpos : Pos} (it : Addr) (hod : o.data = .dict es ep) :
    Turn P w K (.Tuple elts kk tpos) (Itp ks P w d o kvs) [it] it (fun i h => ∃ ok ov, IsItemIter h it d i es.size ep ok ov) where
  mem := by simp
  obj := fun i h st b hb => by
    have e : b = it := by simpa using hb
    subst e
    obtain ⟨ok, ov, e⟩ := st
    exact ⟨_, e, fun v z => nomatch z⟩
  keep := fun i h h' st k => let ⟨ok, ov, e⟩ := st; ⟨ok, ov, k it (by simp) _ e⟩
  item := by
    intro X hP hw hK hc i pins s σ H E I hf st hg
    subst hP hw hK
    obtain ⟨⟨xs, hd, nt⟩, hi⟩ := hg
    obtain ⟨hs, hgd, hx, es', ep', hdt, hsz, ent⟩ := frzN I.hok hd nt
    obtain ⟨rfl, rfl⟩ := dict_ep hod hdt
    obtain ⟨⟨k, v⟩, hkv⟩ : ∃ p, kvs[i]? = some p := ⟨kvs[i], List.getElem?_eq_getElem hi⟩
    obtain ⟨en, q, hen, hkey, hq, hrv⟩ := ent i k v hkv
    obtain ⟨ok, ov, he⟩ := st
    have hlt : it < s.heap.objs.size := Heap.lt_size he
    have hi' : i < es'.size := by omega
    have een : es'[i] = en := by
      have := Array.getElem?_eq_getElem hi'
      rw [this] at hen
      exact Option.some.inj hen
    refine DT.nextI he ⟨_, hgd, hx, hdt⟩ hi' fun h' ho hT hz hk => ?_
    rw [een] at ho hT
    refine ⟨_, rfl, wpAny_letOwnedTupleGo_items (s := { s with heap := h' }) ho fun h'' he' sb => ?_⟩
    have hT2 : h''.get? s.heap.objs.size = some { cls := .type "tuple", data := .seq #[en.key, en.val] } := (sb.2 _ (Nat.ne_of_gt hlt)).trans hT
    have new : ObjOk X.prog X.w (upd H s.heap.objs.size (.tup [.ref q, v])) h'' s.heap.objs.size (.tup [.ref q, v]) :=
      ⟨by show 2 ≤ sizeLine; decide, [en.key, en.val], .cons hkey (.cons hrv .nil), ⟨_, hT2, rfl, _, rfl⟩⟩
    have I1 : Inv X pins σ (upd H s.heap.objs.size (.tup [.ref q, v])) { s with heap := h'' } :=
      I.turnedNew (t' := s.toks) (ch := [it]) (fun b ob hb e => (sb.2 b (by simpa using hb)).trans (hk b ob (by simpa using hb) e)) hf (Nat.le_refl _) new
    refine ⟨.ref s.heap.objs.size, _, I1, rfl, ⟨_, k, v, q, hkv, rfl, hq, I.hok.fresh (Nat.le_refl _), rfl⟩, ⟨en.key, en.val, he'⟩, fun b hb => ?_⟩
    have e : b = it := by simpa using hb
    rw [e, upd_ne (Nat.ne_of_lt hlt)]
    exact (hf it (by simp)).1
  done := by
    intro X hP hw hK hc i pins s σ H E I hf st hg
    subst hP hw hK
    obtain ⟨⟨xs, hd, nt⟩, hi⟩ := hg
    obtain ⟨f0, f1, f2, f3, f4, f5⟩ := hf it (by simp)
    obtain ⟨hs, hgd, hx, es', ep', hdt, hsz, ent⟩ := frzN I.hok hd nt
    obtain ⟨rfl, rfl⟩ := dict_ep hod hdt
    obtain ⟨ok, ov, he⟩ := st
    exact DT.endI (I.ok.hd hc) he ⟨_, hgd, hx, hdt⟩ (by omega) fun h' eb => ⟨rfl, I.turned (t' := s.toks) (fun b ob hb e => eb b ob hb e) f0 f1 f3 f4 f5⟩
  self := fun A i s Q E st h => let ⟨_, _, e⟩ := st; PySem.W.kcp_self e h
end
def iNKeys (ks : KeyS κ) (P : Program) (w : World) (td : TE) : TI := fun σ H R => td σ H fun x H1 => ∃ d o kvs, x = .ref d ∧ NFz ks P w H1 d o kvs ∧ R (Itn ks P w d o kvs) H1
def iNPairs (ks : KeyS κ) (P : Program) (w : World) (td : TE) : TI := fun σ H R => td σ H fun x H1 => ∃ d o kvs, x = .ref d ∧ NFz ks P w H1 d o kvs ∧ R (Itp ks P w d o kvs) H1
section
variable (ks : KeyS κ) {X : Cx} {tg e : Expr} {td : TE} {apos cpos : Pos}
theorem pi_nkeys (he : PE X e td) : PI X tg e (iNKeys ks X.prog X.w td) := by
  refine ⟨fun pins s σ H R I h => ?_⟩
  refine thn (he.run pins s σ H _ I h) fun u s1 ⟨x, H1, I1, rx, d, o, kvs, ex, ⟨xs, hd, nt⟩, q⟩ => ?_
  subst ex
  cases rx
  obtain ⟨hs, hgd, hx, es, ep, hdt, hsz, ent⟩ := frzN I1.hok hd nt
  refine iter_keys hs hgd hx hdt (pi_one (tk := s1.toks) I1 _ (turn_nkeys _ hdt) ⟨_, Heap.get?_push_size _ rfl, rfl, ?_⟩ q)
  rw [hsz] <;> rfl
theorem pi_npairs {elts : List Expr} {kk : Nat} {tpos : Pos} (he : PE X e td) (hbase : attributeBase e "items" X.env (eval e X.env) = eval e X.env := by rfl) (hline : (apos.endLine == cpos.line) = true := by rfl) :
    PI X (.Tuple elts kk tpos) (.Call (.Attribute e "items" apos) [] [] cpos) (iNPairs ks X.prog X.w td) := by
  refine ⟨fun pins s σ H R I h => ?_⟩
  refine wpAny_Call_method (T := "dict") (id := "dict.items") hbase rfl hline F.plainAttrs_dict F.slot_dict_items F.type_dict_items (thn (he.run pins s σ H _ I h) fun u s1 ⟨x, H1, I1, rx, d, o, kvs, ex, ⟨xs, hd, nt⟩, q⟩ => ?_)
  subst ex
  cases rx
  obtain ⟨hs, hgd, hx, es, ep, hdt, hsz, ent⟩ := frzN I1.hok hd nt
  have hT : s1.TypeIs (.ref d) "dict" := ⟨o, hgd, hx.1⟩
  refine ⟨hT, fun b q => ?_, ?_⟩
  · cases q
    exact ⟨o, hgd, hx.2.1⟩
  have I2 : Inv X pins σ H1 { s1 with heap := s1.heap.push { cls := .type "dict_items", data := .fields #[.ref d] } } := I1.kept (t' := s1.toks) fun b ob q => Heap.get?_push_of_some _ q
  have raw : DT.Raw s1.heap d es ep := ⟨o, hgd, hx, hdt⟩
  have fin : wpAny (model X.prog X.w) X.A (pyIter (.ref s1.heap.objs.size)) (PIE X pins σ (.Tuple elts kk tpos) R) X.xe { s1 with heap := s1.heap.push { cls := .type "dict_items", data := .fields #[.ref d] } } := by
    refine DT.iterI (d := d) (es := es) (ep := ep) ⟨_, Heap.get?_push_size _ rfl, rfl, rfl⟩ (raw.push _) (pi_one (tk := s1.toks) I2 _ (turn_npairs _ hdt) ⟨.none, .none, ?_⟩ q)
    exact Heap.get?_push_size _ rfl
  show wpAny _ _ (callWith cpos (.builtin "dict.items") [.ref d] [] []) _ X.xe s1
  exact method_meetsIn F.slot_dict_items F.entry_dict_items rfl (PySem.evalArgs_none ⟨rfl, hT, F.args_dict_items_1 _, _, DT.meetsItems (es := es) (ep := ep) hs, raw, fin⟩)
end

/-! ### len, isinstance -/
def rLenN (ks : KeyS κ) (P : Program) (w : World) : List V → Hp → VK → Prop := fun xs H Q => ∃ (p : Addr) (kvs : List (κ × V)), xs = [.ref p] ∧ NRd ks P w H p kvs ∧ Q (.int ((kvs.length : Nat) : Int)) H
theorem call_len_n (ks : KeyS κ) {X : Cx} : CallR X (.builtin "len") (rLenN ks X.prog X.w) := by
  intro pins s σ H xs us Q I r h
  obtain ⟨p, kvs, rfl, hp, q⟩ := h
  obtain ⟨u, rfl, rx⟩ := vals1 r
  cases rx
  obtain ⟨hd, z, ys, rel, dd⟩ := nrd_of I.hok hp
  have hl : kvs.length = ys.length := Paired.length rel
  refine call_len_dictH hd dd (by rw [← hl]; rw [sizeLine_eq] at z; omega) ?_
  rw [← hl]
  exact ⟨.int ((kvs.length : Nat) : Int), H, I.tok _, ⟨_, rfl⟩, q⟩
def rIsDictN (ks : KeyS κ) (P : Program) (w : World) : List V → Hp → VK → Prop := fun xs H Q => ∃ (p : Addr) (kvs : List (κ × V)), xs = [.ref p, .ty "dict"] ∧ NRd ks P w H p kvs ∧ Q (.bl true) H
theorem call_isdict_n (ks : KeyS κ) {X : Cx} : CallR X (.builtin "isinstance") (rIsDictN ks X.prog X.w) := by
  intro pins s σ H xs us Q I r h
  obtain ⟨p, kvs, rfl, hp, q⟩ := h
  obtain ⟨u1, u2, rfl, r1, r2⟩ := vals2 r
  cases r1
  cases r2
  obtain ⟨hd, z, ys, rel, o, es, ep, h1, h2, _⟩ := nrd_of I.hok hp
  exact PySem.W.kia_one (K := X.K) PySem.W.kitx_dict I.kIn ⟨o, h1, h2.1⟩ (kit_ty (by decide +kernel)) (fun z => nomatch z) fun tk => ⟨.bl true, H, I.tok tk, rfl, q⟩

/-! ### {k: v} with one entry -/
def tNOne (ks : KeyS κ) (P : Program) (w : World) (tk tv : TE) : TE := fun σ H Q => ∀ p, H p = none → tk σ (upd H p (dN ks P w p [])) fun x H1 => tv σ H1 fun y H2 => ∃ b k, x = .ref b ∧ NDict ks P w H2 p [] ∧ ks.At H2 b k ∧
  ∀ H', (∃ ys, H' = upd H2 p (dN ks P w p ys)) → NDict ks P w H' p [(k, y)] → Q (.ref p) H'
theorem pe_none1 (ks : KeyS κ) {X : Cx} {k v : Expr} {pos : Pos} {tk tv : TE} (hu : X.A.units + 64 < cLine) (hk : PE X k tk) (hv : PE X v tv) : PE X (.Dict [some k] [v] pos) (tNOne ks X.prog X.w tk tv) := by
  refine ⟨fun pins s σ H Q I h => ?_⟩
  have I1 := I.laid (a := s.heap.objs.size) (o := dN ks X.prog X.w s.heap.objs.size []) (h' := s.heap.push { cls := .type "dict", data := .dict #[] }) (t' := s.toks) (fun _ _ q => Heap.get?_push_of_some _ q) (Nat.le_refl _) (n_empty s.heap I.big)
  refine wpAny_Dict_any rfl rfl (by simp) (by show 1 ≤ 15; decide) (pairTrees_cons_walk (thn (hk.run pins _ σ _ _ I1 (h _ (I.hok.fresh (Nat.le_refl _)))) fun u s1 ⟨x, H1, I2, rx, q1⟩ => thn (hv.run pins s1 σ H1 _ I2 q1) fun w2 s2 ⟨y, H2, I3, ry, b, kk, ex, g, hb, q2⟩ => pairTrees_nil_walk ?_))
  subst ex
  cases rx
  unfold storeAll
  rw [List.forIn_cons]
  refine wpAny_bind (wpAny_bind (n_dictSet hu I3 g hb ry (by show 0 < sizeLine; decide) fun H' s' I' eH g' => wpAny_pure ?_))
  show wpAny _ _ (forIn ([] : List (Value × Value)) PUnit.unit _) _ _ _
  rw [List.forIn_nil]
  refine wpAny_pure ⟨.ref s.heap.objs.size, H', I', rfl, q2 H' eH ?_⟩
  rw [putK_new _ valV_nil] at g'
  exact g'

/-! ### {k: v for a, b in d.items() if t} -/
section
variable {X : Cx}
def tNDc (ks : KeyS κ) (P : Program) (w : World) (wi : TI) (g : TG) (tt : TT) (tk tv : TE) (vs : List Nat) : TE := fun σ H Q => wi σ H fun J H1 => ∀ D, H1 D = none → ∃ W : Nat → Nat → Hp → Prop, (∃ m, W 0 m (upd H1 D (dN ks P w D []))) ∧ ∀ i m H, W i m H →
  (J.stop i H ∧ Q (.ref D) H) ∨ (J.go i H ∧ ∃ Nx : Hp → Prop, (∀ H', Nx H' → ∃ m', m' < m ∧ W (i + 1) m' H') ∧ ∀ x H', J.yld i H x H' → g x (wipe σ vs) H' fun σ2 H2 => wipe σ2 vs = wipe σ vs ∧ tt σ2 H2 fun b H3 =>
    if b = true then tk σ2 H3 fun y H4 => tv σ2 H4 fun z H5 => ∃ q k kvs, y = .ref q ∧ NDict ks P w H5 D kvs ∧ ks.At H5 q k ∧ kvs.length < sizeLine ∧ ∀ H6, (∃ ys, H6 = upd H5 D (dN ks P w D ys)) → NDict ks P w H6 D (putK kvs k z) → Nx H6 else Nx H3)
theorem ndc_core (ks : KeyS κ) {pins : List (Addr × Obj)} {s : Shared} {σ : St} {H : Hp} {Q : VK} {kx vx tg iter : Expr} {ifs : List Expr} {scope : Scope} {own : List (Str × Nat)} {pos pos' : Pos} {wi : TI} {g : TG} {tt : TT} {tk tv : TE} {use : Option (Value → Sem Unit)} {Qf : Value → Shared → Prop}
    (hu : X.A.units + 64 < cLine) (hc : X.calm = true) (hN : X.N.Nodup) (I : Inv X pins σ H s) (hi : PI X tg iter wi) (ok : BlkOk X.N X.env.scope scope own)
    (hg : ∀ (s : Shared) (H : Hp) (C : Addr) (cl : List (Str × Addr)) (fp : List Addr), PG (X.blk s H scope (compEnvC scope cl C X.env) fp) tg g) (ht : ∀ (s : Shared) (H : Hp) (C : Addr) (cl : List (Str × Addr)) (fp : List Addr), PTs (X.blk s H scope (compEnvC scope cl C X.env) fp) ifs tt)
    (hk : ∀ (s : Shared) (H : Hp) (C : Addr) (cl : List (Str × Addr)) (fp : List Addr), PE (X.blk s H scope (compEnvC scope cl C X.env) fp) kx tk)
    (he : ∀ (s : Shared) (H : Hp) (C : Addr) (cl : List (Str × Addr)) (fp : List Addr), PE (X.blk s H scope (compEnvC scope cl C X.env) fp) vx tv) (hs : ∀ x, foldedSetIterable iter X.env x = pure x)
    (h : tNDc ks X.prog X.w wi g tt tk tv (own.map (·.2)) σ H Q)
    (hRR : ∀ D C s' m H', Inv X pins σ H' s' → Q (.ref D) H' → s'.heap.Ns C m → FpOk X pins H' C → compPost (model X.prog X.w) X.A X.xe use Qf (.ref D) C (.ok .next) s') :
    wpAny (model X.prog X.w) X.A (comprehension (.DictComp kx vx [⟨tg, iter, ifs, 0⟩] scope pos) scope X.env pos' newDict false (eval iter X.env) use) Qf X.xe s := by
  have hfree : ∀ y ∈ scope.names, y.2 = .free → ∃ c, X.env.cells.lookup y.1 = some c := fun y hy e => by
    rcases ok.free y hy e with k | k
    · exact I.ok.has _ (.inl k)
    · exact I.ok.has _ (.inr k)
  refine wpAny_comprehension_free (use := use) rfl hs (closure_ok hfree) ok.kind (fun y hy e => by rw [ok.uniq y hy, e])
    (thn (hi.run pins s σ H _ I h) fun xv s1 hx => thn hx fun itv s2 h2 => ?_)
  obtain ⟨it, fp, tn, J, H2, e, I2, T, st2, f2, q⟩ := h2
  subst e
  refine wpAny_newObj_type (newEnv_comp ?_)
  generalize hD : s2.heap.objs.size = D
  have hDn : H2 D = none := I2.hok.fresh (Nat.le_of_eq hD)
  obtain ⟨W, ⟨m0, w0⟩, turn⟩ := q D hDn
  generalize hs3 : ({ s2 with heap := s2.heap.push { cls := .type "dict", data := .dict #[] } } : Shared) = s3
  have I3 : Inv X pins σ (upd H2 D (dN ks X.prog X.w D [])) s3 := by
    rw [← hs3]
    refine I2.laid (t' := s2.toks) (fun b o e => Heap.get?_push_of_some _ e) (Nat.le_of_eq hD) ?_
    rw [← hD]
    exact n_empty s2.heap I2.big
  have h3 : s3.heap = s2.heap.push { cls := .type "dict", data := .dict #[] } := by rw [← hs3]
  have sz : ∀ b ∈ fp, b < s2.heap.objs.size := fun b hb => by
    obtain ⟨o, e, _⟩ := T.obj _ _ st2 b hb
    exact Heap.lt_size e
  have f3 : ∀ b ∈ fp, FpOk X pins (upd H2 D (dN ks X.prog X.w D [])) b ∧ b < s3.heap.objs.size := fun b hb => by
    have hlt := sz b hb
    refine ⟨⟨?_, (f2 b hb).2⟩, by rw [h3, Heap.size_push]; exact Nat.lt_succ_of_lt hlt⟩
    rw [upd_ne (by rw [← hD]; exact Nat.ne_of_lt hlt)]
    exact (f2 b hb).1
  have st3 : tn 0 s3.heap := T.keep _ _ _ st2 fun b _ o e => by rw [h3]; exact Heap.get?_push_of_some _ e
  have I4 := block_start I3 ok hN f3
  have pg := hg s3 (upd H2 D (dN ks X.prog X.w D [])) s3.heap.objs.size (cellsFrom (s3.heap.objs.size + 1) scope.names (cloFrom X.env.cells scope.names [])) fp
  have pt := ht s3 (upd H2 D (dN ks X.prog X.w D [])) s3.heap.objs.size (cellsFrom (s3.heap.objs.size + 1) scope.names (cloFrom X.env.cells scope.names [])) fp
  have pk := hk s3 (upd H2 D (dN ks X.prog X.w D [])) s3.heap.objs.size (cellsFrom (s3.heap.objs.size + 1) scope.names (cloFrom X.env.cells scope.names [])) fp
  have pe := he s3 (upd H2 D (dN ks X.prog X.w D [])) s3.heap.objs.size (cellsFrom (s3.heap.objs.size + 1) scope.names (cloFrom X.env.cells scope.names [])) fp
  show codeAny _ _ (.compStart (.DictComp kx vx [⟨tg, iter, ifs, 0⟩] scope pos) 0 (.ref it) (.ref D) (compEnvC scope (cellsFrom (s3.heap.objs.size + 1) scope.names (cloFrom X.env.cells scope.names [])) s3.heap.objs.size X.env)) (compPost (model X.prog X.w) X.A X.xe use Qf (.ref D) s3.heap.objs.size) { s3 with heap := pushCells (s3.heap.push { cls := .type "dict", data := .dict #[] }) scope.names }
  have nfp : ∀ b ∈ fp, (upd H2 D (dN ks X.prog X.w D [])) b = none := fun b hb => (f3 b hb).1.1
  generalize hce : compEnvC scope (cellsFrom (s3.heap.objs.size + 1) scope.names (cloFrom X.env.cells scope.names [])) s3.heap.objs.size X.env = ce at I4 pg pt pk pe ⊢
  have cL : ce.locals = s3.heap.objs.size := by subst hce; rfl
  generalize hH3 : upd H2 D (dN ks X.prog X.w D []) = H3 at I3 I4 pg pt pk pe w0 nfp f3
  generalize hs4 : ({ s3 with heap := pushCells (s3.heap.push { cls := .type "dict", data := .dict #[] }) scope.names } : Shared) = s4 at I4 ⊢
  have st4 : tn 0 s4.heap := T.keep _ _ _ st3 fun b _ o e => by rw [← hs4]; exact pushCells_keeps _ _ _ _ (Heap.get?_push_of_some _ e)
  have stat : ∀ {σ' : St} {H' : Hp} {s' : Shared}, Inv (X.blk s3 H3 scope ce fp) [] σ' H' s' → (∀ b ∈ fp, H' b = none) → ∀ b ∈ fp, FpOk (X.blk s3 H3 scope ce fp) [] H' b := fun {σ' H' s'} I' hn b hb =>
    ⟨hn b hb, (I'.ok.exf b hb).1, I'.ok.exfs b hb, .inl hb, fun x c e => (I'.ok.exf b hb).2 x c e, fun p hp => absurd (show p ∈ ([] : List (Addr × Obj)) ++ [] from hp) (by simp)⟩
  have loop : codeAny (model X.prog X.w) X.A (.compLoop (.DictComp kx vx [⟨tg, iter, ifs, 0⟩] scope pos) 0 (.ref it) (.ref D) ce) (compPost (model X.prog X.w) X.A X.xe use Qf (.ref D) s3.heap.objs.size) s4 := by
    refine compLoop_anyD (fun n s' => ∃ i H', Inv (X.blk s3 H3 scope ce fp) [] (wipe σ (own.map (·.2))) H' s' ∧ tn i s'.heap ∧ (∀ b ∈ fp, H' b = none) ∧ W i n H') ?_ m0 ⟨0, H3, I4, st4, nfp, w0⟩
    rintro n s5 ⟨i, H5, I5, st5, n5, w5⟩
    rcases turn i n H5 w5 with ⟨stop, qq⟩ | ⟨go, Nx, hNx, step⟩
    · have td := T.done (X.blk s3 H3 scope ce fp) rfl rfl rfl hc i [] s5 _ H5 (fun _ _ => False) I5 (stat I5 n5) st5 stop
      refine thnF td fun r s6 ⟨hr, I6⟩ => ?_
      subst hr
      have I7 : Inv X pins σ H5 s6 := I3.call' (ch := fp) I6.os I6.base I6.hok I6.bare fun b hb => ⟨(f3 b hb).1.2.2.2.1, (f3 b hb).1.2.1, (f3 b hb).1.2.2.2.2.1, (f3 b hb).1.2.2.2.2.2⟩
      have nC : H5 s3.heap.objs.size = none := by
        have z : H5 ce.locals = none := I6.free
        rw [cL] at z
        exact z
      obtain ⟨m, hn, _⟩ := I6.loc
      have hn : s6.heap.Ns ce.locals m := hn
      rw [cL] at hn
      exact hRR D s3.heap.objs.size s6 m H5 I7 qq hn (I3.fpOk (Nat.le_refl _) nC)
    · have ti := T.item (X.blk s3 H3 scope ce fp) rfl rfl rfl hc i [] s5 _ H5 (fun _ _ => False) I5 (stat I5 n5) st5 go
      refine thnF ti fun r s6 ⟨u, hr, h6⟩ => ?_
      subst hr
      refine thnF h6 fun _ s7 ⟨x, H7, I7, r7, y7, st7, n7⟩ => ?_
      have I7' := I7.pinned (stat I7 n7) (T.obj _ _ st7)
      refine thnF (pg.run _ s7 _ H7 x u _ I7' r7 (step x H7 y7)) fun _ s8 ⟨σ8, H8, I8, hw8, q8⟩ => ?_
      refine thnF (pt.run _ s8 σ8 H8 _ I8 q8) fun b s9 ⟨H9, I9, q9⟩ => ?_
      have fin : ∀ {s' : Shared} {H' : Hp}, Inv (X.blk s3 H3 scope ce fp) ([] ++ pinsAt fp s7.heap) σ8 H' s' → Nx H' → ∃ m, m < n ∧ ∃ i H', Inv (X.blk s3 H3 scope ce fp) [] (wipe σ (own.map (·.2))) H' s' ∧ tn i s'.heap ∧ (∀ b ∈ fp, H' b = none) ∧ W i m H' := fun {s' H'} I' nx => by
        obtain ⟨m', hm, w'⟩ := hNx H' nx
        have pin' : ∀ b ∈ fp, ∀ o, s7.heap.get? b = some o → s'.heap.get? b = some o ∧ H' b = none := fun b hb o e =>
          let z := I'.pin (b, o) (List.mem_append_right _ (List.mem_append_right _ (mem_pinsAt hb e)))
          ⟨z.1, z.2.1⟩
        have hl : (wipe σ (own.map (·.2))).length = σ8.length := by rw [← hw8, wipe_length]
        refine ⟨m', hm, i + 1, H', (I'.unpinned (pins := [])).weak hl (fun j v e => ?_), T.keep _ _ _ st7 fun b hb o e => (pin' b hb o e).1, fun b hb => ?_, w'⟩
        · rw [← hw8] at e
          exact (wipe_some e).1
        · obtain ⟨o, e, _⟩ := T.obj _ _ st7 b hb
          exact (pin' b hb o e).2
      cases b with
      | false =>
        simp only [Bool.false_eq_true, if_false] at q9 ⊢
        exact fin I9 q9
      | true =>
        simp only [if_true] at q9 ⊢
        refine thnF (pk.run _ s9 σ8 H9 _ I9 q9) fun z s10 ⟨yk, H10, I10, r10, q10⟩ => ?_
        refine thnF (pe.run _ s10 σ8 H10 _ I10 q10) fun z2 s11 ⟨yv, H11, I11, r11, qk, kk, kvs, ek, gD, hP, hz11, nx⟩ => ?_
        subst ek
        cases r10
        exact n_dictSet (X := X.blk s3 H3 scope ce fp) hu I11 gD hP r11 hz11 fun H12 s12 I12 eH g12 => fin I12 (nx H12 eH g12)
  exact codeAny_compStart_dict loop (T.self X.A 0 _ _ _ st4 loop)
theorem pe_ndc (ks : KeyS κ) {kx vx tg iter : Expr} {ifs : List Expr} {scope : Scope} {own : List (Str × Nat)} {pos : Pos} {wi : TI} {g : TG} {tt : TT} {tk tv : TE} (hu : X.A.units + 64 < cLine) (hc : X.calm = true) (hN : X.N.Nodup) (hi : PI X tg iter wi) (ok : BlkOk X.N X.env.scope scope own)
    (hg : ∀ (s : Shared) (H : Hp) (C : Addr) (cl : List (Str × Addr)) (fp : List Addr), PG (X.blk s H scope (compEnvC scope cl C X.env) fp) tg g) (ht : ∀ (s : Shared) (H : Hp) (C : Addr) (cl : List (Str × Addr)) (fp : List Addr), PTs (X.blk s H scope (compEnvC scope cl C X.env) fp) ifs tt)
    (hk : ∀ (s : Shared) (H : Hp) (C : Addr) (cl : List (Str × Addr)) (fp : List Addr), PE (X.blk s H scope (compEnvC scope cl C X.env) fp) kx tk)
    (he : ∀ (s : Shared) (H : Hp) (C : Addr) (cl : List (Str × Addr)) (fp : List Addr), PE (X.blk s H scope (compEnvC scope cl C X.env) fp) vx tv) (hs : ∀ x, foldedSetIterable iter X.env x = pure x := by intro _; rfl) :
    PE X (.DictComp kx vx [⟨tg, iter, ifs, 0⟩] scope pos) (tNDc ks X.prog X.w wi g tt tk tv (own.map (·.2))) := by
  refine ⟨fun pins s σ H Q I h => ?_⟩
  rw [arm_eval_DictComp]
  refine ndc_core ks hu hc hN I hi ok hg ht hk he hs h fun D C s' m H' I' q hn f => ⟨m, hn, fun h'' sb => ?_⟩
  obtain ⟨f0, f1, f2, f3, f4, f5⟩ := f
  exact ⟨.ref D, H', I'.turned (t' := s'.toks) (fun b o hb e => (sb.2 b hb).trans e) f0 f1 f3 f4 f5, rfl, q⟩
end
end
end K98
/-! Rules for rows (tuples of ints) and pairs of rows with short readings: the heap behind is only said to keep all that stood. -/
namespace K98
open PySem PySem.Spec PyProof.Rows L2

/-! ### weaker readings -/
theorem PE.imp {X : Cx} {e : Expr} {t t' : TE} (h : PE X e t) (i : ∀ σ H Q, t' σ H Q → t σ H Q) : PE X e t' := ⟨fun pins s σ H Q I w => h.run pins s σ H Q I (i σ H Q w)⟩
theorem OpR.imp {X : Cx} {f : Value → Value → Sem Value} {r r' : R2} (h : OpR X f r) (i : ∀ x y H Q, r' x y H Q → r x y H Q) : OpR X f r' := fun pins s σ H x y v u Q I rx ry w => h pins s σ H x y v u Q I rx ry (i x y H Q w)
theorem SlR.imp {X : Cx} {r r' : V → Option Int → Option Int → Hp → VK → Prop} (h : SlR X r) (i : ∀ x lo hi H Q, r' x lo hi H Q → r x lo hi H Q) : SlR X r' := fun pins s σ H x v vl vu lo hi sl Q I rx hs pl pu w => h pins s σ H x v vl vu lo hi sl Q I rx hs pl pu (i _ _ _ _ _ w)
theorem IxR.imp {X : Cx} {r r' : R2} (h : IxR X r) (i : ∀ x y H Q, r' x y H Q → r x y H Q) : IxR X r' := fun va sl pins s σ H x y v u Q I rx ry w z => h va sl pins s σ H x y v u Q I rx ry (i x y H Q w) z
theorem CallR.imp {X : Cx} {f : Value} {r r' : List V → Hp → VK → Prop} (h : CallR X f r) (i : ∀ xs H Q, r' xs H Q → r xs H Q) : CallR X f r' := fun pins s σ H xs us Q I rx w => h pins s σ H xs us Q I rx (i xs H Q w)

/-! ### heaps -/
theorem same_new {H : Hp} {p : Addr} {o : HO} (h : H p = none) : Same H (upd H p o) := fun b x e => by
  rw [upd_ne (ne_of_none e h)]
  exact e
/-- all but what stands at p is kept -/
def SameBut (p : Addr) (H H' : Hp) : Prop := ∀ b o, H b = some o → b ≠ p → H' b = some o
theorem SameBut.of {p : Addr} {H H' : Hp} (h : Same H H') : SameBut p H H' := fun b o e _ => h b o e
theorem SameBut.trans {p : Addr} {H H1 H2 : Hp} (a : SameBut p H H1) (b : SameBut p H1 H2) : SameBut p H H2 := fun c o e n => b c o (a c o e n) n
theorem SameBut.same {p : Addr} {H H1 H2 : Hp} (a : SameBut p H H1) (b : Same H1 H2) : SameBut p H H2 := fun c o e n => b c o (a c o e n)
theorem Same.but {p : Addr} {H H1 H2 : Hp} (a : Same H H1) (b : SameBut p H1 H2) : SameBut p H H2 := fun c o e n => b c o (a c o e) n
theorem SameBut.upd {p : Addr} {H : Hp} {o : HO} : SameBut p H (upd H p o) := fun b x e n => by
  rw [upd_ne n]
  exact e
/-- what was not there may be changed -/
theorem Same.upd_fresh {H0 H : Hp} {p : Addr} {o : HO} (s : Same H0 H) (h : H0 p = none) : Same H0 (upd H p o) := fun b x e => by
  rw [upd_ne (ne_of_none e h)]
  exact s b x e
theorem Same.but_fresh {H0 H H' : Hp} {p : Addr} (s : Same H0 H) (k : SameBut p H H') (h : H0 p = none) : Same H0 H' := fun b x e => k b x (s b x e) (ne_of_none e h)
theorem Keeps.of {H H' : Hp} (s : Same H H') : Keeps H H' := fun b o e _ => s b o e
theorem RowAt.same {H H' : Hp} {a : Addr} {r : Row} (h : RowAt H a r) (s : Same H H') : RowAt H' a r := h.keep (Keeps.of s)
theorem PairAt.same {H H' : Hp} {a : Addr} {k : K2} (h : PairAt H a k) (s : Same H H') : PairAt H' a k := h.keep (Keeps.of s)
theorem RowAt.inj {H : Hp} {a : Addr} {r r' : Row} (h : RowAt H a r) (h' : RowAt H a r') : r = r' := by
  obtain ⟨i1, h⟩ := h
  obtain ⟨i2, h'⟩ := h'
  have e : some (HO.frz (tobj i1) (.tup (vr r))) = some (HO.frz (tobj i2) (.tup (vr r'))) := h.symm.trans h'
  injection e with e1
  injection e1 with e2 e3
  injection e3 with e4
  exact vr_inj e4
theorem vr_len (r : Row) : (vr r).length = r.length := List.length_map ..

/-! ### slices of rows -/
def cutR (r : Row) (lo hi : Option Int) : Row := (r.drop (HT.sIx r.length 0 lo)).take (HT.sIx r.length r.length hi - HT.sIx r.length 0 lo)
theorem cutV_vr (r : Row) (lo hi : Option Int) : cutV (vr r) lo hi = vr (cutR r lo hi) := by
  unfold cutV cutR
  rw [vr_len, ← List.map_drop, ← List.map_take]
theorem cutR_upto (r : Row) (k : Nat) : cutR r none (some (k : Int)) = r.take k := by
  unfold cutR
  rw [HT.sIx_none, HT.sIx_nat, List.drop_zero, Nat.sub_zero, List.take_eq_take_iff]
  omega
theorem cutR_from (r : Row) (k : Nat) : cutR r (some (k : Int)) none = r.drop k := by
  unfold cutR
  rw [HT.sIx_none, HT.sIx_nat]
  by_cases h : k ≤ r.length
  · rw [Nat.min_eq_left h, List.take_of_length_le (by rw [List.length_drop]; omega)]
  · rw [Nat.min_eq_right (by omega), List.drop_length, List.take_nil, List.drop_eq_nil_of_le (by omega)]
theorem sIx_neg (n a : Nat) (ha : 1 ≤ a) : HT.sIx n 0 (some (-(a : Int))) = n - a := by
  unfold HT.sIx
  simp only
  split <;> omega
theorem cutR_last (r : Row) (a : Nat) (ha : 1 ≤ a) : cutR r (some (-(a : Int))) none = lastN a r := by
  unfold cutR lastN
  rw [HT.sIx_none, sIx_neg _ _ ha, List.take_of_length_le (by rw [List.length_drop]; omega)]
theorem cutR_whole {r : Row} {lo hi : Option Int} (h : HT.sIx r.length 0 lo = 0 ∧ HT.sIx r.length r.length hi = r.length) : cutR r lo hi = r := by
  unfold cutR
  rw [h.1, h.2, List.drop_zero, Nat.sub_zero, List.take_length]
def rSlRow : V → Option Int → Option Int → Hp → VK → Prop := fun x lo hi H Q => ∃ a r, x = .ref a ∧ RowAt H a r ∧ ∀ p H', Same H H' → RowAt H' p (cutR r lo hi) → Q (.ref p) H'
section
variable {X : Cx}
theorem sl_row : SlR X rSlRow := by
  intro pins s σ H x v vl vu lo hi sl Q I rx hs pl pu h
  obtain ⟨a, r, rfl, hr, q⟩ := h
  cases rx
  obtain ⟨its, rv, ht, hz⟩ := I.tuple hr.sq
  have hlen : its.toArray.size = (vr r).length := by rw [List.size_toArray]; exact rv.length.symm
  refine ⟨"tuple", _, PyProof.Rows.slot_tuple_getitem.lookup, ht.typeIs, ?_⟩
  by_cases hw : HT.sIx (vr r).length 0 lo = 0 ∧ HT.sIx (vr r).length (vr r).length hi = (vr r).length
  · refine getItem_tuple_whole ht hs pl pu (by rw [hlen]; exact hw) ⟨.ref a, H, I, rfl, q a H (Same.refl H) ?_⟩
    rw [vr_len] at hw
    rw [cutR_whole hw]
    exact hr
  · refine HT.getItem_tuple_cut ht hs pl pu (by rw [hlen]; exact hw) ?_ (by rw [hlen]; exact hz)
    rw [hlen]
    have hf := I.hok.fresh (Nat.le_refl s.heap.objs.size)
    have rv2 : Vals (vr (cutR r lo hi)) ((its.toArray.toList.drop (HT.sIx (vr r).length 0 lo)).take (HT.sIx (vr r).length (vr r).length hi - HT.sIx (vr r).length 0 lo)) := by
      rw [← cutV_vr]
      exact (rv.drop (HT.sIx (vr r).length 0 lo)).take (HT.sIx (vr r).length (vr r).length hi - HT.sIx (vr r).length 0 lo)
    have hl2 : (vr (cutR r lo hi)).length ≤ sizeLine := by
      rw [← cutV_vr]
      exact Nat.le_trans (cutV_length (vr r) lo hi) hz
    exact ⟨.ref s.heap.objs.size, _, I.laid (t' := s.toks) (o := .frz (tobj _) (.tup (vr (cutR r lo hi)))) (fun b ob q => Heap.get?_push_of_some _ q) (Nat.le_refl _) (tobj_ok hl2 rv2 (Heap.get?_push_size _ rfl)), rfl, q _ _ (same_new hf) ⟨_, upd_same⟩⟩
/-! ### rows one behind another -/
def rCatRow : R2 := fun x y H Q => ∃ a b r s, x = .ref a ∧ y = .ref b ∧ RowAt H a r ∧ RowAt H b s ∧ r.length + s.length ≤ sizeLine ∧ ∀ p H', Same H H' → RowAt H' p (r ++ s) → Q (.ref p) H'
theorem op_catR : OpR X (binaryOp .Add) rCatRow := by
  intro pins s σ H x y v u Q I rx ry h
  obtain ⟨a, b, r1, r2, rfl, rfl, ha, hb, hz, q⟩ := h
  cases rx
  cases ry
  obtain ⟨its, v1, p1, _⟩ := I.tuple ha.sq
  obtain ⟨its2, v2, p2, _⟩ := I.tuple hb.sq
  by_cases hx : r1 = []
  · subst hx
    cases v1
    exact cat_tup0 p1 p2 ⟨.ref b, H, I, rfl, q b H (Same.refl H) hb⟩
  · have hf := I.hok.fresh (Nat.le_refl s.heap.objs.size)
    have hx' : its ≠ [] := fun z => hx (vr_inj (y := []) (v1.nil_iff.mp z))
    refine HT.cat_tup p1 p2 hx' (fun z => ?_) (fun z => ?_) (by rw [← v1.length, ← v2.length, vr_len, vr_len]; exact hz)
    · have e : r2 = [] := vr_inj (y := []) (v2.nil_iff.mp z)
      subst e
      exact ⟨.ref a, H, I, rfl, q a H (Same.refl H) (by rw [List.append_nil]; exact ha)⟩
    · have rv2 : Vals (vr (r1 ++ r2)) (its ++ its2) := by
        unfold vr
        rw [List.map_append]
        exact v1.append v2
      exact ⟨.ref s.heap.objs.size, _, I.laid (t' := s.toks) (o := .frz (tobj _) (.tup (vr (r1 ++ r2)))) (fun b ob q => Heap.get?_push_of_some _ q) (Nat.le_refl _) (tobj_ok (by rw [vr_len, List.length_append]; exact hz) rv2 (Heap.get?_push_size _ rfl)), rfl, q _ _ (same_new hf) ⟨_, upd_same⟩⟩
/-! ### len, items, count -/
def rLenRow : List V → Hp → VK → Prop := fun xs H Q => ∃ p r, xs = [.ref p] ∧ RowAt H p r ∧ Q (.int (r.length : Int)) H
theorem call_len_row : CallR X (.builtin "len") rLenRow := CallR.imp call_len_seq fun xs H Q h => by
  obtain ⟨p, r, rfl, hr, q⟩ := h
  refine ⟨p, vr r, rfl, .inr hr.sq, ?_⟩
  rw [vr_len]
  exact q
def rIxRow : R2 := fun x y H Q => ∃ p r i v, x = .ref p ∧ y = .int i ∧ RowAt H p r ∧ 0 ≤ i ∧ r[i.toNat]? = some v ∧ Q (.int v) H
theorem ix_row : IxR X rIxRow := IxR.imp ix_tup fun x y H Q h => by
  obtain ⟨p, r, i, v, rfl, rfl, hr, h0, hv, q⟩ := h
  refine ⟨p, vr r, i, .int v, rfl, rfl, hr.sq, ?_, q⟩
  obtain ⟨j, rfl⟩ : ∃ j : Nat, i = (j : Int) := ⟨i.toNat, by omega⟩
  refine atI_nat ?_
  unfold vr
  rw [List.getElem?_map]
  have : r[j]? = some v := by simpa using hv
  rw [this]
  rfl
/-- the sides of a pair -/
def rIxPair : R2 := fun x y H Q => ∃ p k b c, x = .ref p ∧ H p = some (.tup [.ref b, .ref c]) ∧ RowAt H b (Prod.fst k) ∧ RowAt H c (Prod.snd k) ∧ ((y = .int 0 ∧ Q (.ref b) H) ∨ (y = .int 1 ∧ Q (.ref c) H))
theorem ix_pair : IxR X rIxPair := IxR.imp ix_tup fun x y H Q h => by
  obtain ⟨p, k, b, c, rfl, hp, _, _, h⟩ := h
  rcases h with ⟨rfl, q⟩ | ⟨rfl, q⟩
  · exact ⟨p, _, 0, .ref b, rfl, rfl, SqT.of hp, atI_nat (j := 0) rfl, q⟩
  · exact ⟨p, _, 1, .ref c, rfl, rfl, SqT.of hp, atI_nat (j := 1) rfl, q⟩
def tCountR (to : TE) (ta : TA) : TE := fun σ H Q => to σ H fun x H1 => ∃ p r0, x = .ref p ∧ RowAt H1 p r0 ∧ ta σ H1 fun xs H2 => ∃ r k, xs = [.int k] ∧ RowAt H2 p r ∧ Q (.int (r.count k : Nat)) H2
theorem pe_count_row {o e : Expr} {to : TE} {t : TA} {apos cpos : Pos} (ho : PE X o to) (ha : PA X [e] t)
    (hbase : attributeBase o "count" X.env (eval o X.env) = eval o X.env := by rfl)
    (hfew : ((backTo cpos (starEach [e] X.env)).all (fun x => !x.1) && (backToKw cpos (keywordEach [] X.env)).all (fun x => x.1.isSome)
      && decide (([e] : List Expr).length + ([] : List Keyword).length + (if ([] : List Keyword).isEmpty then 0 else 1) < 30)) = true := by rfl)
    (hline : (apos.endLine == cpos.line) = true := by rfl) (hs : starEach [e] X.env = (false, eval e X.env) :: starEach [] X.env := by rfl) : PE X (.Call (.Attribute o "count" apos) [e] [] cpos) (tCountR to t) := by
  refine ⟨fun pins s σ H Q I h => ?_⟩
  refine wpAny_Call_method_late hbase hfew hline rfl (thn (ho.run pins s σ H _ I h) fun v s1 ⟨x, H1, I1, rx, p, r0, ex, hp, q1⟩ => ?_)
  subst ex
  cases rx
  obtain ⟨ii, e0⟩ := hp
  have h0 : s1.heap.get? p = some (tobj ii) := (I1.hok p _ e0).1
  refine ⟨"tuple", "tuple.count", PySem.F.plainAttrs_tuple, PySem.F.slot_tuple_count, PySem.F.type_tuple_count, ⟨_, h0, rfl⟩, fun a ea => ?_, ?_⟩
  · cases ea
    exact ⟨_, h0, rfl⟩
  have hA := ha.run cpos pins s1 σ H1 _ I1 q1
  rw [hs] at hA ⊢
  refine Calls.callWith_builtin rfl (Calls.evalArgs_plain ?_)
  refine thn hA fun us s2 ⟨vs, H2, I2, r2, r, k, evs, hr, q⟩ => ?_
  subst evs
  obtain ⟨u, rfl, ru⟩ := Vals.one r2
  obtain ⟨t, rfl⟩ := ru
  obtain ⟨its, rv, ⟨⟨cls, dd, data, sl⟩, hob, hc, n, hd⟩, hlen⟩ := I2.tuple hr.sq
  simp only at hc hd
  subst hc hd
  have hi := ints_of_vals rv
  refine call_meets PySem.F.slot_tuple_count ⟨_, hob, rfl⟩ PySem.F.entry_tuple_count (PySem.F.args_tuple_count_2 _ _)
    (SeqAt.tuple_countAt p its.toArray n dd sl (.int k t) (eqk k)) ⟨hob, fun y hy => (eqk_gives hi y (by simpa using hy)).at _ _, ?_⟩
  have ec : its.toArray.toList.countP (eqk k) = r.count k := eqk_count hi
  refine ⟨.int (r.count k : Nat), H2, I2.tok _, ⟨s2.toks, ?_⟩, q⟩
  show Value.int ((its.toArray.toList.countP (eqk k) : Nat) : Int) s2.toks = Value.int ((r.count k : Nat) : Int) s2.toks
  rw [ec]
/-! ### pairs displayed -/
def tPairR (ta tb : TE) : TE := fun σ H Q => ta σ H fun x H1 => tb σ H1 fun y H2 => ∃ b c r s, [x, y] = [V.ref b, V.ref c] ∧ RowAt H2 b r ∧ RowAt H2 c s ∧ ∀ p H', Same H2 H' → PairAt H' p (r, s) → Q (.ref p) H'
theorem pe_pairR {a b : Expr} {ta tb : TE} {x1 : Nat} {pos : Pos} (ha : PE X a ta) (hb : PE X b tb) (hs : starEach [a, b] X.env = (false, eval a X.env) :: starEach [b] X.env := by rfl) (hs2 : starEach [b] X.env = (false, eval b X.env) :: starEach [] X.env := by rfl) :
    PE X (.Tuple [a, b] x1 pos) (tPairR ta tb) := by
  refine ⟨fun pins s σ H Q I h => ?_⟩
  refine wpAny_Tuple_spliced (thn ((pa_cons ha (pa_cons hb pa_nil hs2) hs).run pos pins s σ H (fun xs H2 => ∃ b c r s, xs = [V.ref b, V.ref c] ∧ RowAt H2 b r ∧ RowAt H2 c s ∧ ∀ p H', Same H2 H' → PairAt H' p (r, s) → Q (.ref p) H') I h) fun us s1 ⟨vs, H1, I1, r1, q1⟩ => ?_)
  obtain ⟨b, c, r, s', rfl, hb', hc', q⟩ := q1
  have z : [V.ref b, V.ref c].length ≤ sizeLine := by show 2 ≤ sizeLine; decide
  refine ⟨by rw [← r1.length]; exact z, ?_⟩
  have hf : H1 s1.heap.objs.size = none := I1.hok.fresh (Nat.le_refl _)
  refine ⟨.ref s1.heap.objs.size, upd H1 s1.heap.objs.size (.tup [.ref b, .ref c]), I1.laid (t' := s1.toks) (fun b u e => Heap.get?_push_of_some _ e) (Nat.le_refl _) ?_, rfl, q _ _ (same_new hf) ⟨b, c, upd_same, ?_, ?_⟩⟩
  · exact ⟨z, us, r1, ⟨_, Heap.get?_push_size _ rfl, rfl, _, rfl⟩⟩
  · exact hb'.same (same_new hf)
  · exact hc'.same (same_new hf)
/-- the empty row -/
def tNilR : TE := fun _ H Q => ∀ p H', Same H H' → RowAt H' p [] → Q (.ref p) H'
theorem pe_nilR {x1 : Nat} {pos : Pos} : PE X (.Tuple [] x1 pos) tNilR := by
  refine ⟨fun pins s σ H Q I h => ?_⟩
  refine wpAny_Tuple_spliced (thn (pa_nil.run pos pins s σ H (fun xs H2 => xs = [] ∧ ∀ p H', Same H2 H' → RowAt H' p [] → Q (.ref p) H') I ⟨rfl, h⟩) fun us s1 ⟨vs, H1, I1, r1, q1⟩ => ?_)
  obtain ⟨rfl, q⟩ := q1
  refine ⟨by rw [← r1.length]; exact Nat.zero_le _, ?_⟩
  have hf : H1 s1.heap.objs.size = none := I1.hok.fresh (Nat.le_refl _)
  exact ⟨.ref s1.heap.objs.size, _, I1.laid (t' := s1.toks) (o := .frz (tobj us) (.tup (vr []))) (fun b u e => Heap.get?_push_of_some _ e) (Nat.le_refl _) (tobj_ok (Nat.zero_le _) r1 (Heap.get?_push_size _ rfl)), rfl, q _ _ (same_new hf) ⟨_, upd_same⟩⟩
/-- a row of one sound -/
def tOneR (ta : TE) : TE := fun σ H Q => ta σ H fun x H1 => ∃ i, [x] = [V.int i] ∧ ∀ p H', Same H1 H' → RowAt H' p [i] → Q (.ref p) H'
theorem pe_oneR {a : Expr} {ta : TE} {x1 : Nat} {pos : Pos} (ha : PE X a ta) (hs : starEach [a] X.env = (false, eval a X.env) :: starEach [] X.env := by rfl) : PE X (.Tuple [a] x1 pos) (tOneR ta) := by
  refine ⟨fun pins s σ H Q I h => ?_⟩
  refine wpAny_Tuple_spliced (thn ((pa_cons ha pa_nil hs).run pos pins s σ H (fun xs H2 => ∃ i, xs = [V.int i] ∧ ∀ p H', Same H2 H' → RowAt H' p [i] → Q (.ref p) H') I h) fun us s1 ⟨vs, H1, I1, r1, q1⟩ => ?_)
  obtain ⟨i, rfl, q⟩ := q1
  have z : [V.int i].length ≤ sizeLine := by show 1 ≤ sizeLine; decide
  refine ⟨by rw [← r1.length]; exact z, ?_⟩
  have hf : H1 s1.heap.objs.size = none := I1.hok.fresh (Nat.le_refl _)
  exact ⟨.ref s1.heap.objs.size, _, I1.laid (t' := s1.toks) (o := .frz (tobj us) (.tup (vr [i]))) (fun b u e => Heap.get?_push_of_some _ e) (Nat.le_refl _) (tobj_ok z r1 (Heap.get?_push_size _ rfl)), rfl, q _ _ (same_new hf) ⟨_, upd_same⟩⟩
/-- tuple(list of ints) -/
def rTupRow (K : PySem.W.Frag) : List V → Hp → VK → Prop := fun xs H Q => ∃ l r, xs = [.ref l] ∧ SqL K H l (vr r) ∧ ∀ p H', Same H H' → RowAt H' p r → Q (.ref p) H'
theorem call_tuple_row : CallR X (.type "tuple") (rTupRow X.K) := by
  intro pins s σ H xs us Q I r h
  obtain ⟨p, ys, rfl, hq, q⟩ := h
  obtain ⟨u, rfl, rx⟩ := vals1 r
  cases rx
  obtain ⟨its, r', pl, hz⟩ := I.list hq
  have hlen := r'.length
  refine call_tuple_list pl.isList (fun h' kp => ?_) (by simp only [List.size_toArray] <;> omega)
  have I1 : Inv X pins σ H { s with heap := h' } := I.kept (t' := s.toks) kp
  exact ⟨.ref h'.objs.size, _, I1.laid (t' := s.toks) (o := .frz (tobj its) (.tup (vr ys))) (fun b o e => Heap.get?_push_of_some _ e) (Nat.le_refl _) (tobj_ok hz r' (Heap.get?_push_size _ rfl)), rfl, q _ _ (same_new (I1.hok.fresh (Nat.le_refl _))) ⟨_, upd_same⟩⟩
end

/-! ### rows and pairs as data -/
def rD (r : Row) : PyData := .tuple (r.map .int)
def pD (k : K2) : PyData := .tuple [rD k.1, rD k.2]
section
variable {K : PySem.W.Frag} {H : Hp}
theorem dp_ints : ∀ r : Row, DpAll K H (vr r) (r.map .int)
  | [] => .nil
  | x :: r => .cons (.int x) (dp_ints r)
theorem dp_row {a : Addr} {r : Row} (h : RowAt H a r) : Dp K H (.ref a) (rD r) := .tup h.sq (dp_ints r)
theorem dp_pair {a : Addr} {k : K2} (h : PairAt H a k) : Dp K H (.ref a) (pD k) := by
  obtain ⟨b, c, h0, hb, hc⟩ := h
  exact .tup (SqT.of h0) (.cons (dp_row hb) (.cons (dp_row hc) .nil))
end
theorem ints_lay : ∀ r : Row, PyData.canLayAll0 (r.map PyData.int) = true
  | [] => by simp [PyData.canLayAll0]
  | x :: r => by simp [PyData.canLayAll0, PyData.canLay0, ints_lay r]
theorem ints_depth : ∀ r : Row, PyData.depthAll (r.map PyData.int) ≤ 0
  | [] => by simp [PyData.depthAll]
  | x :: r => by
    have h := ints_depth r
    simp only [List.map_cons, PyData.depthAll, PyData.depth]
    omega
theorem rD_lay (r : Row) : (rD r).canLay0 = true := by
  unfold rD
  simp only [PyData.canLay0]
  exact ints_lay r
theorem rD_depth (r : Row) : (rD r).depth ≤ 1 := by
  have h := ints_depth r
  unfold rD
  simp only [PyData.depth]
  omega
theorem rD_shaped (r : Row) : SeqAt.shaped (rD r) = true := by
  have h := rD_depth r
  show ((rD r).canLay0 && decide ((rD r).depth ≤ 64)) = true
  rw [rD_lay, decide_eq_true (by omega)]
  rfl
theorem pD_shaped (k : K2) : SeqAt.shaped (pD k) = true := by
  have h1 := rD_depth k.1
  have h2 := rD_depth k.2
  show ((pD k).canLay0 && decide ((pD k).depth ≤ 64)) = true
  have e1 : (pD k).canLay0 = true := by
    unfold pD
    simp only [PyData.canLay0, PyData.canLayAll0, rD_lay, Bool.and_self, Bool.and_true]
  have e2 : (pD k).depth ≤ 64 := by
    unfold pD
    simp only [PyData.depth, PyData.depthAll]
    omega
  rw [e1, decide_eq_true e2]
  rfl
theorem ints_eqv : ∀ x y : Row, PyData.eqvAll (x.map PyData.int) (y.map PyData.int) = decide (x = y)
  | [], [] => by simp [PyData.eqvAll]
  | [], _ :: _ => by simp [PyData.eqvAll]
  | _ :: _, [] => by simp [PyData.eqvAll]
  | a :: x, b :: y => by
    have ih := ints_eqv x y
    simp only [List.map_cons, PyData.eqvAll, PyData.eqv, ih]
    by_cases h1 : a = b
    · subst h1
      simp
    · simp [h1]
theorem rD_eqv (x y : Row) : PyData.eqv (rD x) (rD y) = decide (x = y) := by
  unfold rD
  simp only [PyData.eqv]
  exact ints_eqv x y
theorem pD_eqv (x y : K2) : PyData.eqv (pD x) (pD y) = decide (x = y) := by
  obtain ⟨a, b⟩ := x
  obtain ⟨c, d⟩ := y
  unfold pD
  simp only [PyData.eqv, PyData.eqvAll, rD_eqv, Bool.and_true]
  by_cases h1 : a = c
  · by_cases h2 : b = d
    · subst h1 h2
      simp
    · simp [h2]
  · simp [h1]
def rsD (rs : List Row) : PyData := .list (rs.map rD)
theorem rows_lay : ∀ rs : List Row, PyData.canLayAll0 (rs.map rD) = true
  | [] => by simp [PyData.canLayAll0]
  | x :: r => by simp [PyData.canLayAll0, rD_lay, rows_lay r]
theorem rows_depth : ∀ rs : List Row, PyData.depthAll (rs.map rD) ≤ 1
  | [] => by simp [PyData.depthAll]
  | x :: r => by
    have h1 := rD_depth x
    have h2 := rows_depth r
    simp only [List.map_cons, PyData.depthAll]
    omega
theorem rsD_shaped (rs : List Row) : SeqAt.shaped (rsD rs) = true := by
  have h := rows_depth rs
  show ((rsD rs).canLay0 && decide ((rsD rs).depth ≤ 64)) = true
  have e1 : (rsD rs).canLay0 = true := by
    unfold rsD
    simp only [PyData.canLay0]
    exact rows_lay rs
  have e2 : (rsD rs).depth ≤ 64 := by
    unfold rsD
    simp only [PyData.depth]
    omega
  rw [e1, decide_eq_true e2]
  rfl
/-- a list of rows -/
def RowsAt (H : Hp) : List Addr → List Row → Prop := Paired (RowAt H)
theorem RowsAt.same {H H' : Hp} {as : List Addr} {rs : List Row} (h : RowsAt H as rs) (s : Same H H') : RowsAt H' as rs := Paired.mapP h fun _ _ z => RowAt.same z s
theorem dp_rows {K : PySem.W.Frag} {H : Hp} : ∀ {as : List Addr} {rs : List Row}, RowsAt H as rs → DpAll K H (as.map V.ref) (rs.map rD)
  | _, _, .nil => .nil
  | _, _, .cons h t => .cons (dp_row h) (dp_rows t)
end K98
/-! The text by places, what the top has written (printed by gen.py). -/
namespace K98
open PySem PySem.Spec PyProof.Rows L2

theorem _root_.L2.Room.units65 {k : Nat} {A : Around} (r : Room k A) : A.units + 65 < cLine := by have := r.un; omega
def topS (i : Nat) : Stmt := PySem.Challenge.pw_heardseams_k98_whole_chains_said_out.main.body.getD i (.Pass ⟨0, 0, 0, 0⟩)
abbrev s_is_integer : Stmt := topS 6
abbrev n_is_integer : List PySem.Str := ["thing"]
theorem sc_is_integer : FnScope ["thing"] ["thing"] (defScope s_is_integer) := ⟨rfl, rfl, rfl, by decide +kernel, rfl, by decide +kernel, by decide +kernel⟩
abbrev s_is_between : Stmt := topS 7
abbrev n_is_between : List PySem.Str := ["thing", "least", "most"]
theorem sc_is_between : FnScope ["thing", "least", "most"] ["thing", "least", "most"] (defScope s_is_between) := ⟨rfl, rfl, rfl, by decide +kernel, rfl, by decide +kernel, by decide +kernel⟩
abbrev s_is_index : Stmt := topS 8
abbrev n_is_index : List PySem.Str := ["thing", "many"]
theorem sc_is_index : FnScope ["thing", "many"] ["thing", "many"] (defScope s_is_index) := ⟨rfl, rfl, rfl, by decide +kernel, rfl, by decide +kernel, by decide +kernel⟩
abbrev s_check_number : Stmt := topS 9
abbrev n_check_number : List PySem.Str := ["thing", "least", "most"]
theorem sc_check_number : FnScope ["thing", "least", "most"] ["thing", "least", "most"] (defScope s_check_number) := ⟨rfl, rfl, rfl, by decide +kernel, rfl, by decide +kernel, by decide +kernel⟩
abbrev s_is_sounds : Stmt := topS 14
abbrev n_is_sounds : List PySem.Str := ["thing", "sounds", "least", "most", "sound"]
theorem sc_is_sounds : FnScope ["thing", "sounds", "least", "most", "sound"] ["thing", "sounds", "least", "most"] (defScope s_is_sounds) := ⟨rfl, rfl, rfl, by decide +kernel, rfl, by decide +kernel, by decide +kernel⟩
abbrev s_is_side_pair : Stmt := topS 15
abbrev n_is_side_pair : List PySem.Str := ["thing", "sounds", "ahead", "behind"]
theorem sc_is_side_pair : FnScope ["thing", "sounds", "ahead", "behind"] ["thing", "sounds", "ahead", "behind"] (defScope s_is_side_pair) := ⟨rfl, rfl, rfl, by decide +kernel, rfl, by decide +kernel, by decide +kernel⟩
abbrev s_is_table : Stmt := topS 16
abbrev n_is_table : List PySem.Str := ["thing", "sounds", "ahead", "behind", "key", "side"]
theorem sc_is_table : FnScope ["thing", "sounds", "ahead", "behind", "key", "side"] ["thing", "sounds", "ahead", "behind"] (defScope s_is_table) := ⟨rfl, rfl, rfl, by decide +kernel, rfl, by decide +kernel, by decide +kernel⟩
abbrev s_check_sizes : Stmt := topS 17
abbrev n_check_sizes : List PySem.Str := ["sounds", "ahead", "behind"]
theorem sc_check_sizes : FnScope ["sounds", "ahead", "behind"] ["sounds", "ahead", "behind"] (defScope s_check_sizes) := ⟨rfl, rfl, rfl, by decide +kernel, rfl, by decide +kernel, by decide +kernel⟩
abbrev s_Book_init : Stmt := inClass (topS 18) 0
abbrev n_Book_init : List PySem.Str := ["self", "sounds", "ahead", "behind", "table"]
theorem sc_Book_init : FnScope ["self", "sounds", "ahead", "behind", "table"] ["self", "sounds", "ahead", "behind", "table"] (defScope s_Book_init) := ⟨rfl, rfl, rfl, by decide +kernel, rfl, by decide +kernel, by decide +kernel⟩
abbrev s_Book_keep : Stmt := inClass (topS 18) 1
abbrev n_Book_keep : List PySem.Str := ["self", "sounds", "ahead", "behind", "table", "key", "told"]
theorem sc_Book_keep : FnScope ["self", "sounds", "ahead", "behind", "table", "key", "told"] ["self", "sounds", "ahead", "behind", "table"] (defScope s_Book_keep) := ⟨rfl, rfl, rfl, by decide +kernel, rfl, by decide +kernel, by decide +kernel⟩
abbrev s_Book_reach : Stmt := inClass (topS 18) 6
abbrev n_Book_reach : List PySem.Str := ["self"]
theorem sc_Book_reach : FnScope ["self"] ["self"] (defScope s_Book_reach) := ⟨rfl, rfl, rfl, by decide +kernel, rfl, by decide +kernel, by decide +kernel⟩
abbrev s_told : Stmt := topS 19
abbrev n_told : List PySem.Str := ["book", "left", "right"]
theorem sc_told : FnScope ["book", "left", "right"] ["book", "left", "right"] (defScope s_told) := ⟨rfl, rfl, rfl, by decide +kernel, rfl, by decide +kernel, by decide +kernel⟩
abbrev s_is_word : Stmt := topS 22
abbrev n_is_word : List PySem.Str := ["thing", "sounds"]
theorem sc_is_word : FnScope ["thing", "sounds"] ["thing", "sounds"] (defScope s_is_word) := ⟨rfl, rfl, rfl, by decide +kernel, rfl, by decide +kernel, by decide +kernel⟩
abbrev s_joined_rows : Stmt := topS 23
abbrev n_joined_rows : List PySem.Str := ["book", "one", "other", "left", "right", "new_left", "new_right"]
theorem sc_joined_rows : FnScope ["book", "one", "other", "left", "right", "new_left", "new_right"] ["book", "one", "other"] (defScope s_joined_rows) := ⟨rfl, rfl, rfl, by decide +kernel, rfl, by decide +kernel, by decide +kernel⟩
abbrev s_met_rows : Stmt := topS 25
abbrev n_met_rows : List PySem.Str := ["book", "one", "other", "ahead", "behind"]
theorem sc_met_rows : FnScope ["book", "one", "other", "ahead", "behind"] ["book", "one", "other"] (defScope s_met_rows) := ⟨rfl, rfl, rfl, by decide +kernel, rfl, by decide +kernel, by decide +kernel⟩
abbrev s_summed_up : Stmt := topS 27
abbrev n_summed_up : List PySem.Str := ["book", "row"]
theorem sc_summed_up : FnScope ["book", "row"] ["book", "row"] (defScope s_summed_up) := ⟨rfl, rfl, rfl, by decide +kernel, rfl, by decide +kernel, by decide +kernel⟩
abbrev s_standing_for : Stmt := topS 28
abbrev n_standing_for : List PySem.Str := ["found"]
theorem sc_standing_for : FnScope ["found"] ["found"] (defScope s_standing_for) := ⟨rfl, rfl, rfl, by decide +kernel, rfl, by decide +kernel, by decide +kernel⟩
abbrev s_check_word : Stmt := topS 31
abbrev n_check_word : List PySem.Str := ["book", "thing"]
theorem sc_check_word : FnScope ["book", "thing"] ["book", "thing"] (defScope s_check_word) := ⟨rfl, rfl, rfl, by decide +kernel, rfl, by decide +kernel, by decide +kernel⟩
abbrev s_ends_of : Stmt := topS 32
abbrev n_ends_of : List PySem.Str := ["book", "row"]
theorem sc_ends_of : FnScope ["book", "row"] ["book", "row"] (defScope s_ends_of) := ⟨rfl, rfl, rfl, by decide +kernel, rfl, by decide +kernel, by decide +kernel⟩
abbrev s_Chain_init : Stmt := inClass (topS 33) 0
abbrev n_Chain_init : List PySem.Str := ["self", "book", "word", "row"]
theorem sc_Chain_init : FnScope ["self", "book", "word", "row"] ["self", "book", "word"] (defScope s_Chain_init) := ⟨rfl, rfl, rfl, by decide +kernel, rfl, by decide +kernel, by decide +kernel⟩
abbrev s_Chain_cut : Stmt := inClass (topS 33) 1
abbrev n_Chain_cut : List PySem.Str := ["self", "row", "tail"]
theorem sc_Chain_cut : FnScope ["self", "row", "tail"] ["self", "row"] (defScope s_Chain_cut) := ⟨rfl, rfl, rfl, by decide +kernel, rfl, by decide +kernel, by decide +kernel⟩
abbrev s_Chain_index : Stmt := inClass (topS 33) 2
abbrev n_Chain_index : List PySem.Str := ["self", "number"]
theorem sc_Chain_index : FnScope ["self", "number"] ["self", "number"] (defScope s_Chain_index) := ⟨rfl, rfl, rfl, by decide +kernel, rfl, by decide +kernel, by decide +kernel⟩
abbrev s_Chain_tail : Stmt := inClass (topS 33) 3
abbrev n_Chain_tail : List PySem.Str := ["self", "number"]
theorem sc_Chain_tail : FnScope ["self", "number"] ["self", "number"] (defScope s_Chain_tail) := ⟨rfl, rfl, rfl, by decide +kernel, rfl, by decide +kernel, by decide +kernel⟩
abbrev s_Chain_settled : Stmt := inClass (topS 33) 4
abbrev n_Chain_settled : List PySem.Str := ["self", "number", "row"]
theorem sc_Chain_settled : FnScope ["self", "number", "row"] ["self", "number"] (defScope s_Chain_settled) := ⟨rfl, rfl, rfl, by decide +kernel, rfl, by decide +kernel, by decide +kernel⟩
abbrev s_Chain_full : Stmt := inClass (topS 33) 5
abbrev n_Chain_full : List PySem.Str := ["self", "at"]
theorem sc_Chain_full : FnScope ["self", "at"] ["self"] (defScope s_Chain_full) := ⟨rfl, rfl, rfl, by decide +kernel, rfl, by decide +kernel, by decide +kernel⟩
abbrev s_Chain_sound : Stmt := inClass (topS 33) 6
abbrev n_Chain_sound : List PySem.Str := ["self", "times", "place", "start", "number", "row", "further"]
theorem sc_Chain_sound : FnScope ["self", "times", "place", "start", "number", "row", "further"] ["self", "times", "place"] (defScope s_Chain_sound) := ⟨rfl, rfl, rfl, by decide +kernel, rfl, by decide +kernel, by decide +kernel⟩
abbrev s_Chain_count : Stmt := inClass (topS 33) 7
abbrev n_Chain_count : List PySem.Str := ["self", "times", "sound", "start", "total", "more", "turn", "ring", "rounds", "at", "number"]
theorem sc_Chain_count : FnScope ["self", "times", "sound", "start", "total", "more", "turn", "ring", "rounds", "at", "number"] ["self", "times", "sound"] (defScope s_Chain_count) := ⟨rfl, rfl, rfl, by decide +kernel, rfl, by decide +kernel, by decide +kernel⟩
abbrev s_check_chain : Stmt := topS 34
abbrev n_check_chain : List PySem.Str := ["book", "word", "times"]
theorem sc_check_chain : FnScope ["book", "word", "times"] ["book", "word", "times"] (defScope s_check_chain) := ⟨rfl, rfl, rfl, by decide +kernel, rfl, by decide +kernel, by decide +kernel⟩
abbrev s_first_row : Stmt := topS 35
abbrev n_first_row : List PySem.Str := ["book", "word", "times", "many", "row", "_"]
theorem sc_first_row : FnScope ["book", "word", "times", "many", "row", "_"] ["book", "word", "times"] (defScope s_first_row) := ⟨rfl, rfl, rfl, by decide +kernel, rfl, by decide +kernel, by decide +kernel⟩
abbrev s_chain_ends : Stmt := topS 36
abbrev n_chain_ends : List PySem.Str := ["book", "word", "times"]
theorem sc_chain_ends : FnScope ["book", "word", "times"] ["book", "word", "times"] (defScope s_chain_ends) := ⟨rfl, rfl, rfl, by decide +kernel, rfl, by decide +kernel, by decide +kernel⟩
abbrev s_chain_sound : Stmt := topS 37
abbrev n_chain_sound : List PySem.Str := ["book", "word", "times", "place"]
theorem sc_chain_sound : FnScope ["book", "word", "times", "place"] ["book", "word", "times", "place"] (defScope s_chain_sound) := ⟨rfl, rfl, rfl, by decide +kernel, rfl, by decide +kernel, by decide +kernel⟩
abbrev s_chain_count : Stmt := topS 38
abbrev n_chain_count : List PySem.Str := ["book", "word", "times", "sound"]
theorem sc_chain_count : FnScope ["book", "word", "times", "sound"] ["book", "word", "times", "sound"] (defScope s_chain_count) := ⟨rfl, rfl, rfl, by decide +kernel, rfl, by decide +kernel, by decide +kernel⟩
abbrev s_chain_ring : Stmt := topS 39
abbrev n_chain_ring : List PySem.Str := ["book", "word", "chain"]
theorem sc_chain_ring : FnScope ["book", "word", "chain"] ["book", "word"] (defScope s_chain_ring) := ⟨rfl, rfl, rfl, by decide +kernel, rfl, by decide +kernel, by decide +kernel⟩
abbrev s_doubled_ends : Stmt := topS 40
abbrev n_doubled_ends : List PySem.Str := ["book", "word", "times", "found", "seen", "row", "later", "before"]
theorem sc_doubled_ends : FnScope ["book", "word", "times", "found", "seen", "row", "later", "before"] ["book", "word", "times"] (defScope s_doubled_ends) := ⟨rfl, rfl, rfl, by decide +kernel, rfl, by decide +kernel, by decide +kernel⟩
abbrev s_law_hand : Stmt := topS 42
abbrev n_law_hand : List PySem.Str := ["_law_script", "_law_cells", "_law_cell"]
theorem sc_law_hand : FnScope ["_law_script", "_law_cells", "_law_cell"] ["_law_script"] (defScope s_law_hand) := ⟨rfl, rfl, rfl, by decide +kernel, rfl, by decide +kernel, by decide +kernel⟩
abbrev s_law_draw : Stmt := topS 43
abbrev n_law_draw : List PySem.Str := ["_law_hand_here", "_law_many", "_law_cell", "_law_digit", "_law_figure"]
theorem sc_law_draw : FnScope ["_law_hand_here", "_law_many", "_law_cell", "_law_digit", "_law_figure"] ["_law_hand_here", "_law_many"] (defScope s_law_draw) := ⟨rfl, rfl, rfl, by decide +kernel, rfl, by decide +kernel, by decide +kernel⟩
abbrev s_law_book : Stmt := topS 44
abbrev n_law_book : List PySem.Str := ["_law_hand_here", "_law_sounds", "_law_ahead", "_law_behind", "_law_often", "_law_table", "_law_left", "_law_right", "_law_new_left", "_law_k"]
theorem sc_law_book : FnScope ["_law_hand_here", "_law_sounds", "_law_ahead", "_law_behind", "_law_often", "_law_table", "_law_left", "_law_right", "_law_new_left", "_law_k"] ["_law_hand_here", "_law_sounds", "_law_ahead", "_law_behind", "_law_often"] (defScope s_law_book) := ⟨rfl, rfl, rfl, by decide +kernel, rfl, by decide +kernel, by decide +kernel⟩
abbrev s_law_rows : Stmt := topS 45
abbrev n_law_rows : List PySem.Str := ["_law_sounds", "_law_most", "_law_found", "_law_last", "_law_k", "_law_longer", "_law_row", "_law_sound"]
theorem sc_law_rows : FnScope ["_law_sounds", "_law_most", "_law_found", "_law_last", "_law_k", "_law_longer", "_law_row", "_law_sound"] ["_law_sounds", "_law_most"] (defScope s_law_rows) := ⟨rfl, rfl, rfl, by decide +kernel, rfl, by decide +kernel, by decide +kernel⟩
abbrev s_law_met : Stmt := topS 46
abbrev n_law_met : List PySem.Str := ["_law_table", "_law_ahead", "_law_behind", "_law_one", "_law_other", "_law_left", "_law_right", "_law_told"]
theorem sc_law_met : FnScope ["_law_table", "_law_ahead", "_law_behind", "_law_one", "_law_other", "_law_left", "_law_right", "_law_told"] ["_law_table", "_law_ahead", "_law_behind", "_law_one", "_law_other"] (defScope s_law_met) := ⟨rfl, rfl, rfl, by decide +kernel, rfl, by decide +kernel, by decide +kernel⟩
abbrev s_law_ends : Stmt := topS 47
abbrev n_law_ends : List PySem.Str := ["_law_row", "_law_ahead", "_law_behind"]
theorem sc_law_ends : FnScope ["_law_row", "_law_ahead", "_law_behind"] ["_law_row", "_law_ahead", "_law_behind"] (defScope s_law_ends) := ⟨rfl, rfl, rfl, by decide +kernel, rfl, by decide +kernel, by decide +kernel⟩
abbrev s_law_far_doubled : Stmt := topS 48
abbrev n_law_far_doubled : List PySem.Str := ["_law_parts", "_law_word", "_law_times", "_law_table", "_law_ahead", "_law_behind", "_law_known", "_law_row", "_law_back"]
theorem sc_law_far_doubled : FnScope ["_law_parts", "_law_word", "_law_times", "_law_table", "_law_ahead", "_law_behind", "_law_known", "_law_row", "_law_back"] ["_law_parts", "_law_word", "_law_times"] (defScope s_law_far_doubled) := ⟨rfl, rfl, rfl, by decide +kernel, rfl, by decide +kernel, by decide +kernel⟩
abbrev s_law : Stmt := topS 49
abbrev n_law : List PySem.Str := ["_law_script", "_law_hand_here", "_law_ahead", "_law_behind", "_law_sounds", "_law_often", "_law_table", "_law_book_here", "_law_k", "_law_word", "_law_rows_here", "_law_turn", "_law_times", "_law_row", "_law_place", "_law_sound", "_law_before", "_law_length", "_law_far", "_law_more", "_law_total"]
theorem sc_law : FnScope ["_law_script", "_law_hand_here", "_law_ahead", "_law_behind", "_law_sounds", "_law_often", "_law_table", "_law_book_here", "_law_k", "_law_word", "_law_rows_here", "_law_turn", "_law_times", "_law_row", "_law_place", "_law_sound", "_law_before", "_law_length", "_law_far", "_law_more", "_law_total"] ["_law_script"] (defScope s_law) := ⟨rfl, rfl, rfl, by decide +kernel, rfl, by decide +kernel, by decide +kernel⟩
/-- a def of the module -/
structure Df (K : PySem.W.Frag) (mg : PySem.Str → Option Value) (x : PySem.Str) (ps : List PySem.Str) (st : Stmt) where
  f : Addr
  fd : FuncData
  F : Fun K x x st f fd
  b : Binds K fd ps []
  g : mg x = some (.ref f)
/-- a method -/
structure Dm (K : PySem.W.Frag) (C : Addr) (x q : PySem.Str) (ps : List PySem.Str) (st : Stmt) where
  f : Addr
  fd : FuncData
  F : Fun K x q st f fd
  b : Binds K fd ps []
  m : Meth K C x f
structure DcBook (K : PySem.W.Frag) (mg : PySem.Str → Option Value) (C fi : Addr) : Prop where
  cl : Cls K C
  gC : mg "Book" = some (.ref C)
  M : Mk K C fi
  a_kept_sounds : NoAttr K C "kept_sounds"
  a_kept_ahead : NoAttr K C "kept_ahead"
  a_kept_behind : NoAttr K C "kept_behind"
  a_kept_table : NoAttr K C "kept_table"
structure DcChain (K : PySem.W.Frag) (mg : PySem.Str → Option Value) (C fi : Addr) : Prop where
  cl : Cls K C
  gC : mg "Chain" = some (.ref C)
  M : Mk K C fi
  a_book : NoAttr K C "book"
  a_word : NoAttr K C "word"
  a_tails : NoAttr K C "tails"
  a_fixed : NoAttr K C "fixed"
  a_seen : NoAttr K C "seen"
  a_before : NoAttr K C "before"
  a_ring : NoAttr K C "ring"
structure Defs (K : PySem.W.Frag) (mg : PySem.Str → Option Value) where
  CBook : Addr
  CChain : Addr
  is_integer : Df K mg "is_integer" ["thing"] s_is_integer
  is_between : Df K mg "is_between" ["thing", "least", "most"] s_is_between
  is_index : Df K mg "is_index" ["thing", "many"] s_is_index
  check_number : Df K mg "check_number" ["thing", "least", "most"] s_check_number
  is_sounds : Df K mg "is_sounds" ["thing", "sounds", "least", "most"] s_is_sounds
  is_side_pair : Df K mg "is_side_pair" ["thing", "sounds", "ahead", "behind"] s_is_side_pair
  is_table : Df K mg "is_table" ["thing", "sounds", "ahead", "behind"] s_is_table
  check_sizes : Df K mg "check_sizes" ["sounds", "ahead", "behind"] s_check_sizes
  Book_init : Dm K CBook "__init__" "Book.__init__" ["self", "sounds", "ahead", "behind", "table"] s_Book_init
  Book_keep : Dm K CBook "keep" "Book.keep" ["self", "sounds", "ahead", "behind", "table"] s_Book_keep
  Book_reach : Dm K CBook "reach" "Book.reach" ["self"] s_Book_reach
  told : Df K mg "told" ["book", "left", "right"] s_told
  is_word : Df K mg "is_word" ["thing", "sounds"] s_is_word
  joined_rows : Df K mg "joined_rows" ["book", "one", "other"] s_joined_rows
  met_rows : Df K mg "met_rows" ["book", "one", "other"] s_met_rows
  summed_up : Df K mg "summed_up" ["book", "row"] s_summed_up
  standing_for : Df K mg "standing_for" ["found"] s_standing_for
  check_word : Df K mg "check_word" ["book", "thing"] s_check_word
  ends_of : Df K mg "ends_of" ["book", "row"] s_ends_of
  Chain_init : Dm K CChain "__init__" "Chain.__init__" ["self", "book", "word"] s_Chain_init
  Chain_cut : Dm K CChain "cut" "Chain.cut" ["self", "row"] s_Chain_cut
  Chain_index : Dm K CChain "index" "Chain.index" ["self", "number"] s_Chain_index
  Chain_tail : Dm K CChain "tail" "Chain.tail" ["self", "number"] s_Chain_tail
  Chain_settled : Dm K CChain "settled" "Chain.settled" ["self", "number"] s_Chain_settled
  Chain_full : Dm K CChain "full" "Chain.full" ["self"] s_Chain_full
  Chain_sound : Dm K CChain "sound" "Chain.sound" ["self", "times", "place"] s_Chain_sound
  Chain_count : Dm K CChain "count" "Chain.count" ["self", "times", "sound"] s_Chain_count
  check_chain : Df K mg "check_chain" ["book", "word", "times"] s_check_chain
  first_row : Df K mg "first_row" ["book", "word", "times"] s_first_row
  chain_ends : Df K mg "chain_ends" ["book", "word", "times"] s_chain_ends
  chain_sound : Df K mg "chain_sound" ["book", "word", "times", "place"] s_chain_sound
  chain_count : Df K mg "chain_count" ["book", "word", "times", "sound"] s_chain_count
  chain_ring : Df K mg "chain_ring" ["book", "word"] s_chain_ring
  doubled_ends : Df K mg "doubled_ends" ["book", "word", "times"] s_doubled_ends
  law_hand : Df K mg "_law_hand" ["_law_script"] s_law_hand
  law_draw : Df K mg "_law_draw" ["_law_hand_here", "_law_many"] s_law_draw
  law_book : Df K mg "_law_book" ["_law_hand_here", "_law_sounds", "_law_ahead", "_law_behind", "_law_often"] s_law_book
  law_rows : Df K mg "_law_rows" ["_law_sounds", "_law_most"] s_law_rows
  law_met : Df K mg "_law_met" ["_law_table", "_law_ahead", "_law_behind", "_law_one", "_law_other"] s_law_met
  law_ends : Df K mg "_law_ends" ["_law_row", "_law_ahead", "_law_behind"] s_law_ends
  law_far_doubled : Df K mg "_law_far_doubled" ["_law_parts", "_law_word", "_law_times"] s_law_far_doubled
  law : Df K mg "law" ["_law_script"] s_law
  Book : DcBook K mg CBook Book_init.f
  Chain : DcChain K mg CChain Chain_init.f
  b_len : mg "len" = none
  b_isinstance : mg "isinstance" = none
  b_int : mg "int" = none
  b_bool : mg "bool" = none
  b_tuple : mg "tuple" = none
  b_dict : mg "dict" = none
  b_all : mg "all" = none
  b_min : mg "min" = none
  b_max : mg "max" = none
  b_sum : mg "sum" = none
  b_abs : mg "abs" = none
  b_range : mg "range" = none
  c_MOST_SOUNDS : ∃ t, mg "MOST_SOUNDS" = some (.int 8 t)
  c_MOST_SIDE : ∃ t, mg "MOST_SIDE" = some (.int 4 t)
  c_MOST_ENTRIES : ∃ t, mg "MOST_ENTRIES" = some (.int 4000 t)
  c_MOST_WORD : ∃ t, mg "MOST_WORD" = some (.int 200 t)
  c_MOST_TIMES : ∃ t, mg "MOST_TIMES" = some (.int 1000000000000000000000000000000 t)
end K98
/-! The attributes of the instances (printed by gen.py). -/
namespace K98
open PySem PySem.Spec PyProof.Rows L2

def F_Book (v0 v1 v2 v3 : V) : List (PySem.Str × V) := putF "kept_table" v3 (putF "kept_behind" v2 (putF "kept_ahead" v1 (putF "kept_sounds" v0 [])))
theorem ne_Book_0_1 : ¬ (("kept_sounds" : PySem.Str) = ("kept_ahead" : PySem.Str)) := by decide +kernel
theorem ne_Book_0_2 : ¬ (("kept_sounds" : PySem.Str) = ("kept_behind" : PySem.Str)) := by decide +kernel
theorem ne_Book_0_3 : ¬ (("kept_sounds" : PySem.Str) = ("kept_table" : PySem.Str)) := by decide +kernel
theorem ne_Book_1_0 : ¬ (("kept_ahead" : PySem.Str) = ("kept_sounds" : PySem.Str)) := by decide +kernel
theorem ne_Book_1_2 : ¬ (("kept_ahead" : PySem.Str) = ("kept_behind" : PySem.Str)) := by decide +kernel
theorem ne_Book_1_3 : ¬ (("kept_ahead" : PySem.Str) = ("kept_table" : PySem.Str)) := by decide +kernel
theorem ne_Book_2_0 : ¬ (("kept_behind" : PySem.Str) = ("kept_sounds" : PySem.Str)) := by decide +kernel
theorem ne_Book_2_1 : ¬ (("kept_behind" : PySem.Str) = ("kept_ahead" : PySem.Str)) := by decide +kernel
theorem ne_Book_2_3 : ¬ (("kept_behind" : PySem.Str) = ("kept_table" : PySem.Str)) := by decide +kernel
theorem ne_Book_3_0 : ¬ (("kept_table" : PySem.Str) = ("kept_sounds" : PySem.Str)) := by decide +kernel
theorem ne_Book_3_1 : ¬ (("kept_table" : PySem.Str) = ("kept_ahead" : PySem.Str)) := by decide +kernel
theorem ne_Book_3_2 : ¬ (("kept_table" : PySem.Str) = ("kept_behind" : PySem.Str)) := by decide +kernel
theorem F_Book_eq (v0 v1 v2 v3 : V) : F_Book v0 v1 v2 v3 = [(("kept_sounds" : PySem.Str), v0), (("kept_ahead" : PySem.Str), v1), (("kept_behind" : PySem.Str), v2), (("kept_table" : PySem.Str), v3)] := by
  unfold F_Book
  simp only [putF, ne_Book_0_1, ne_Book_0_2, ne_Book_0_3, ne_Book_1_2, ne_Book_1_3, ne_Book_2_3, if_false]
theorem F_Book_len (v0 v1 v2 v3 : V) : (F_Book v0 v1 v2 v3).length = 4 := by rw [F_Book_eq]; rfl
theorem F_Book_kept_sounds (v0 v1 v2 v3 : V) : (F_Book v0 v1 v2 v3).lookup ("kept_sounds" : PySem.Str) = some v0 := by
  unfold F_Book
  rw [lookup_putF, if_neg ne_Book_0_3, lookup_putF, if_neg ne_Book_0_2, lookup_putF, if_neg ne_Book_0_1, lookup_putF, if_pos rfl]
theorem F_Book_put_kept_sounds (v0 v1 v2 v3 y : V) : putF ("kept_sounds" : PySem.Str) y (F_Book v0 v1 v2 v3) = F_Book y v1 v2 v3 := by
  rw [F_Book_eq, F_Book_eq]
  simp only [putF, if_true]
theorem F_Book_kept_ahead (v0 v1 v2 v3 : V) : (F_Book v0 v1 v2 v3).lookup ("kept_ahead" : PySem.Str) = some v1 := by
  unfold F_Book
  rw [lookup_putF, if_neg ne_Book_1_3, lookup_putF, if_neg ne_Book_1_2, lookup_putF, if_pos rfl]
theorem F_Book_put_kept_ahead (v0 v1 v2 v3 y : V) : putF ("kept_ahead" : PySem.Str) y (F_Book v0 v1 v2 v3) = F_Book v0 y v2 v3 := by
  rw [F_Book_eq, F_Book_eq]
  simp only [putF, ne_Book_0_1, if_true, if_false]
theorem F_Book_kept_behind (v0 v1 v2 v3 : V) : (F_Book v0 v1 v2 v3).lookup ("kept_behind" : PySem.Str) = some v2 := by
  unfold F_Book
  rw [lookup_putF, if_neg ne_Book_2_3, lookup_putF, if_pos rfl]
theorem F_Book_put_kept_behind (v0 v1 v2 v3 y : V) : putF ("kept_behind" : PySem.Str) y (F_Book v0 v1 v2 v3) = F_Book v0 v1 y v3 := by
  rw [F_Book_eq, F_Book_eq]
  simp only [putF, ne_Book_0_2, ne_Book_1_2, if_true, if_false]
theorem F_Book_kept_table (v0 v1 v2 v3 : V) : (F_Book v0 v1 v2 v3).lookup ("kept_table" : PySem.Str) = some v3 := by
  unfold F_Book
  rw [lookup_putF, if_pos rfl]
theorem F_Book_put_kept_table (v0 v1 v2 v3 y : V) : putF ("kept_table" : PySem.Str) y (F_Book v0 v1 v2 v3) = F_Book v0 v1 v2 y := by
  rw [F_Book_eq, F_Book_eq]
  simp only [putF, ne_Book_0_3, ne_Book_1_3, ne_Book_2_3, if_true, if_false]
theorem F_Book_no_keep (v0 v1 v2 v3 : V) : (F_Book v0 v1 v2 v3).lookup ("keep" : PySem.Str) = none := by
  unfold F_Book
  rw [lookup_putF, if_neg (by decide +kernel), lookup_putF, if_neg (by decide +kernel), lookup_putF, if_neg (by decide +kernel), lookup_putF, if_neg (by decide +kernel)]
  rfl
theorem F_Book_no_reach (v0 v1 v2 v3 : V) : (F_Book v0 v1 v2 v3).lookup ("reach" : PySem.Str) = none := by
  unfold F_Book
  rw [lookup_putF, if_neg (by decide +kernel), lookup_putF, if_neg (by decide +kernel), lookup_putF, if_neg (by decide +kernel), lookup_putF, if_neg (by decide +kernel)]
  rfl
def F_Chain (v0 v1 v2 v3 v4 v5 v6 : V) : List (PySem.Str × V) := putF "ring" v6 (putF "before" v5 (putF "seen" v4 (putF "fixed" v3 (putF "tails" v2 (putF "word" v1 (putF "book" v0 []))))))
theorem ne_Chain_0_1 : ¬ (("book" : PySem.Str) = ("word" : PySem.Str)) := by decide +kernel
theorem ne_Chain_0_2 : ¬ (("book" : PySem.Str) = ("tails" : PySem.Str)) := by decide +kernel
theorem ne_Chain_0_3 : ¬ (("book" : PySem.Str) = ("fixed" : PySem.Str)) := by decide +kernel
theorem ne_Chain_0_4 : ¬ (("book" : PySem.Str) = ("seen" : PySem.Str)) := by decide +kernel
theorem ne_Chain_0_5 : ¬ (("book" : PySem.Str) = ("before" : PySem.Str)) := by decide +kernel
theorem ne_Chain_0_6 : ¬ (("book" : PySem.Str) = ("ring" : PySem.Str)) := by decide +kernel
theorem ne_Chain_1_0 : ¬ (("word" : PySem.Str) = ("book" : PySem.Str)) := by decide +kernel
theorem ne_Chain_1_2 : ¬ (("word" : PySem.Str) = ("tails" : PySem.Str)) := by decide +kernel
theorem ne_Chain_1_3 : ¬ (("word" : PySem.Str) = ("fixed" : PySem.Str)) := by decide +kernel
theorem ne_Chain_1_4 : ¬ (("word" : PySem.Str) = ("seen" : PySem.Str)) := by decide +kernel
theorem ne_Chain_1_5 : ¬ (("word" : PySem.Str) = ("before" : PySem.Str)) := by decide +kernel
theorem ne_Chain_1_6 : ¬ (("word" : PySem.Str) = ("ring" : PySem.Str)) := by decide +kernel
theorem ne_Chain_2_0 : ¬ (("tails" : PySem.Str) = ("book" : PySem.Str)) := by decide +kernel
theorem ne_Chain_2_1 : ¬ (("tails" : PySem.Str) = ("word" : PySem.Str)) := by decide +kernel
theorem ne_Chain_2_3 : ¬ (("tails" : PySem.Str) = ("fixed" : PySem.Str)) := by decide +kernel
theorem ne_Chain_2_4 : ¬ (("tails" : PySem.Str) = ("seen" : PySem.Str)) := by decide +kernel
theorem ne_Chain_2_5 : ¬ (("tails" : PySem.Str) = ("before" : PySem.Str)) := by decide +kernel
theorem ne_Chain_2_6 : ¬ (("tails" : PySem.Str) = ("ring" : PySem.Str)) := by decide +kernel
theorem ne_Chain_3_0 : ¬ (("fixed" : PySem.Str) = ("book" : PySem.Str)) := by decide +kernel
theorem ne_Chain_3_1 : ¬ (("fixed" : PySem.Str) = ("word" : PySem.Str)) := by decide +kernel
theorem ne_Chain_3_2 : ¬ (("fixed" : PySem.Str) = ("tails" : PySem.Str)) := by decide +kernel
theorem ne_Chain_3_4 : ¬ (("fixed" : PySem.Str) = ("seen" : PySem.Str)) := by decide +kernel
theorem ne_Chain_3_5 : ¬ (("fixed" : PySem.Str) = ("before" : PySem.Str)) := by decide +kernel
theorem ne_Chain_3_6 : ¬ (("fixed" : PySem.Str) = ("ring" : PySem.Str)) := by decide +kernel
theorem ne_Chain_4_0 : ¬ (("seen" : PySem.Str) = ("book" : PySem.Str)) := by decide +kernel
theorem ne_Chain_4_1 : ¬ (("seen" : PySem.Str) = ("word" : PySem.Str)) := by decide +kernel
theorem ne_Chain_4_2 : ¬ (("seen" : PySem.Str) = ("tails" : PySem.Str)) := by decide +kernel
theorem ne_Chain_4_3 : ¬ (("seen" : PySem.Str) = ("fixed" : PySem.Str)) := by decide +kernel
theorem ne_Chain_4_5 : ¬ (("seen" : PySem.Str) = ("before" : PySem.Str)) := by decide +kernel
theorem ne_Chain_4_6 : ¬ (("seen" : PySem.Str) = ("ring" : PySem.Str)) := by decide +kernel
theorem ne_Chain_5_0 : ¬ (("before" : PySem.Str) = ("book" : PySem.Str)) := by decide +kernel
theorem ne_Chain_5_1 : ¬ (("before" : PySem.Str) = ("word" : PySem.Str)) := by decide +kernel
theorem ne_Chain_5_2 : ¬ (("before" : PySem.Str) = ("tails" : PySem.Str)) := by decide +kernel
theorem ne_Chain_5_3 : ¬ (("before" : PySem.Str) = ("fixed" : PySem.Str)) := by decide +kernel
theorem ne_Chain_5_4 : ¬ (("before" : PySem.Str) = ("seen" : PySem.Str)) := by decide +kernel
theorem ne_Chain_5_6 : ¬ (("before" : PySem.Str) = ("ring" : PySem.Str)) := by decide +kernel
theorem ne_Chain_6_0 : ¬ (("ring" : PySem.Str) = ("book" : PySem.Str)) := by decide +kernel
theorem ne_Chain_6_1 : ¬ (("ring" : PySem.Str) = ("word" : PySem.Str)) := by decide +kernel
theorem ne_Chain_6_2 : ¬ (("ring" : PySem.Str) = ("tails" : PySem.Str)) := by decide +kernel
theorem ne_Chain_6_3 : ¬ (("ring" : PySem.Str) = ("fixed" : PySem.Str)) := by decide +kernel
theorem ne_Chain_6_4 : ¬ (("ring" : PySem.Str) = ("seen" : PySem.Str)) := by decide +kernel
theorem ne_Chain_6_5 : ¬ (("ring" : PySem.Str) = ("before" : PySem.Str)) := by decide +kernel
theorem F_Chain_eq (v0 v1 v2 v3 v4 v5 v6 : V) : F_Chain v0 v1 v2 v3 v4 v5 v6 = [(("book" : PySem.Str), v0), (("word" : PySem.Str), v1), (("tails" : PySem.Str), v2), (("fixed" : PySem.Str), v3), (("seen" : PySem.Str), v4), (("before" : PySem.Str), v5), (("ring" : PySem.Str), v6)] := by
  unfold F_Chain
  simp only [putF, ne_Chain_0_1, ne_Chain_0_2, ne_Chain_0_3, ne_Chain_0_4, ne_Chain_0_5, ne_Chain_0_6, ne_Chain_1_2, ne_Chain_1_3, ne_Chain_1_4, ne_Chain_1_5, ne_Chain_1_6, ne_Chain_2_3, ne_Chain_2_4, ne_Chain_2_5, ne_Chain_2_6, ne_Chain_3_4, ne_Chain_3_5, ne_Chain_3_6, ne_Chain_4_5, ne_Chain_4_6, ne_Chain_5_6, if_false]
theorem F_Chain_len (v0 v1 v2 v3 v4 v5 v6 : V) : (F_Chain v0 v1 v2 v3 v4 v5 v6).length = 7 := by rw [F_Chain_eq]; rfl
theorem F_Chain_book (v0 v1 v2 v3 v4 v5 v6 : V) : (F_Chain v0 v1 v2 v3 v4 v5 v6).lookup ("book" : PySem.Str) = some v0 := by
  unfold F_Chain
  rw [lookup_putF, if_neg ne_Chain_0_6, lookup_putF, if_neg ne_Chain_0_5, lookup_putF, if_neg ne_Chain_0_4, lookup_putF, if_neg ne_Chain_0_3, lookup_putF, if_neg ne_Chain_0_2, lookup_putF, if_neg ne_Chain_0_1, lookup_putF, if_pos rfl]
theorem F_Chain_put_book (v0 v1 v2 v3 v4 v5 v6 y : V) : putF ("book" : PySem.Str) y (F_Chain v0 v1 v2 v3 v4 v5 v6) = F_Chain y v1 v2 v3 v4 v5 v6 := by
  rw [F_Chain_eq, F_Chain_eq]
  simp only [putF, if_true]
theorem F_Chain_word (v0 v1 v2 v3 v4 v5 v6 : V) : (F_Chain v0 v1 v2 v3 v4 v5 v6).lookup ("word" : PySem.Str) = some v1 := by
  unfold F_Chain
  rw [lookup_putF, if_neg ne_Chain_1_6, lookup_putF, if_neg ne_Chain_1_5, lookup_putF, if_neg ne_Chain_1_4, lookup_putF, if_neg ne_Chain_1_3, lookup_putF, if_neg ne_Chain_1_2, lookup_putF, if_pos rfl]
theorem F_Chain_put_word (v0 v1 v2 v3 v4 v5 v6 y : V) : putF ("word" : PySem.Str) y (F_Chain v0 v1 v2 v3 v4 v5 v6) = F_Chain v0 y v2 v3 v4 v5 v6 := by
  rw [F_Chain_eq, F_Chain_eq]
  simp only [putF, ne_Chain_0_1, if_true, if_false]
theorem F_Chain_tails (v0 v1 v2 v3 v4 v5 v6 : V) : (F_Chain v0 v1 v2 v3 v4 v5 v6).lookup ("tails" : PySem.Str) = some v2 := by
  unfold F_Chain
  rw [lookup_putF, if_neg ne_Chain_2_6, lookup_putF, if_neg ne_Chain_2_5, lookup_putF, if_neg ne_Chain_2_4, lookup_putF, if_neg ne_Chain_2_3, lookup_putF, if_pos rfl]
theorem F_Chain_put_tails (v0 v1 v2 v3 v4 v5 v6 y : V) : putF ("tails" : PySem.Str) y (F_Chain v0 v1 v2 v3 v4 v5 v6) = F_Chain v0 v1 y v3 v4 v5 v6 := by
  rw [F_Chain_eq, F_Chain_eq]
  simp only [putF, ne_Chain_0_2, ne_Chain_1_2, if_true, if_false]
theorem F_Chain_fixed (v0 v1 v2 v3 v4 v5 v6 : V) : (F_Chain v0 v1 v2 v3 v4 v5 v6).lookup ("fixed" : PySem.Str) = some v3 := by
  unfold F_Chain
  rw [lookup_putF, if_neg ne_Chain_3_6, lookup_putF, if_neg ne_Chain_3_5, lookup_putF, if_neg ne_Chain_3_4, lookup_putF, if_pos rfl]
theorem F_Chain_put_fixed (v0 v1 v2 v3 v4 v5 v6 y : V) : putF ("fixed" : PySem.Str) y (F_Chain v0 v1 v2 v3 v4 v5 v6) = F_Chain v0 v1 v2 y v4 v5 v6 := by
  rw [F_Chain_eq, F_Chain_eq]
  simp only [putF, ne_Chain_0_3, ne_Chain_1_3, ne_Chain_2_3, if_true, if_false]
theorem F_Chain_seen (v0 v1 v2 v3 v4 v5 v6 : V) : (F_Chain v0 v1 v2 v3 v4 v5 v6).lookup ("seen" : PySem.Str) = some v4 := by
  unfold F_Chain
  rw [lookup_putF, if_neg ne_Chain_4_6, lookup_putF, if_neg ne_Chain_4_5, lookup_putF, if_pos rfl]
theorem F_Chain_put_seen (v0 v1 v2 v3 v4 v5 v6 y : V) : putF ("seen" : PySem.Str) y (F_Chain v0 v1 v2 v3 v4 v5 v6) = F_Chain v0 v1 v2 v3 y v5 v6 := by
  rw [F_Chain_eq, F_Chain_eq]
  simp only [putF, ne_Chain_0_4, ne_Chain_1_4, ne_Chain_2_4, ne_Chain_3_4, if_true, if_false]
theorem F_Chain_before (v0 v1 v2 v3 v4 v5 v6 : V) : (F_Chain v0 v1 v2 v3 v4 v5 v6).lookup ("before" : PySem.Str) = some v5 := by
  unfold F_Chain
  rw [lookup_putF, if_neg ne_Chain_5_6, lookup_putF, if_pos rfl]
theorem F_Chain_put_before (v0 v1 v2 v3 v4 v5 v6 y : V) : putF ("before" : PySem.Str) y (F_Chain v0 v1 v2 v3 v4 v5 v6) = F_Chain v0 v1 v2 v3 v4 y v6 := by
  rw [F_Chain_eq, F_Chain_eq]
  simp only [putF, ne_Chain_0_5, ne_Chain_1_5, ne_Chain_2_5, ne_Chain_3_5, ne_Chain_4_5, if_true, if_false]
theorem F_Chain_ring (v0 v1 v2 v3 v4 v5 v6 : V) : (F_Chain v0 v1 v2 v3 v4 v5 v6).lookup ("ring" : PySem.Str) = some v6 := by
  unfold F_Chain
  rw [lookup_putF, if_pos rfl]
theorem F_Chain_put_ring (v0 v1 v2 v3 v4 v5 v6 y : V) : putF ("ring" : PySem.Str) y (F_Chain v0 v1 v2 v3 v4 v5 v6) = F_Chain v0 v1 v2 v3 v4 v5 y := by
  rw [F_Chain_eq, F_Chain_eq]
  simp only [putF, ne_Chain_0_6, ne_Chain_1_6, ne_Chain_2_6, ne_Chain_3_6, ne_Chain_4_6, ne_Chain_5_6, if_true, if_false]
theorem F_Chain_no_cut (v0 v1 v2 v3 v4 v5 v6 : V) : (F_Chain v0 v1 v2 v3 v4 v5 v6).lookup ("cut" : PySem.Str) = none := by
  unfold F_Chain
  rw [lookup_putF, if_neg (by decide +kernel), lookup_putF, if_neg (by decide +kernel), lookup_putF, if_neg (by decide +kernel), lookup_putF, if_neg (by decide +kernel), lookup_putF, if_neg (by decide +kernel), lookup_putF, if_neg (by decide +kernel), lookup_putF, if_neg (by decide +kernel)]
  rfl
theorem F_Chain_no_index (v0 v1 v2 v3 v4 v5 v6 : V) : (F_Chain v0 v1 v2 v3 v4 v5 v6).lookup ("index" : PySem.Str) = none := by
  unfold F_Chain
  rw [lookup_putF, if_neg (by decide +kernel), lookup_putF, if_neg (by decide +kernel), lookup_putF, if_neg (by decide +kernel), lookup_putF, if_neg (by decide +kernel), lookup_putF, if_neg (by decide +kernel), lookup_putF, if_neg (by decide +kernel), lookup_putF, if_neg (by decide +kernel)]
  rfl
theorem F_Chain_no_tail (v0 v1 v2 v3 v4 v5 v6 : V) : (F_Chain v0 v1 v2 v3 v4 v5 v6).lookup ("tail" : PySem.Str) = none := by
  unfold F_Chain
  rw [lookup_putF, if_neg (by decide +kernel), lookup_putF, if_neg (by decide +kernel), lookup_putF, if_neg (by decide +kernel), lookup_putF, if_neg (by decide +kernel), lookup_putF, if_neg (by decide +kernel), lookup_putF, if_neg (by decide +kernel), lookup_putF, if_neg (by decide +kernel)]
  rfl
theorem F_Chain_no_settled (v0 v1 v2 v3 v4 v5 v6 : V) : (F_Chain v0 v1 v2 v3 v4 v5 v6).lookup ("settled" : PySem.Str) = none := by
  unfold F_Chain
  rw [lookup_putF, if_neg (by decide +kernel), lookup_putF, if_neg (by decide +kernel), lookup_putF, if_neg (by decide +kernel), lookup_putF, if_neg (by decide +kernel), lookup_putF, if_neg (by decide +kernel), lookup_putF, if_neg (by decide +kernel), lookup_putF, if_neg (by decide +kernel)]
  rfl
theorem F_Chain_no_full (v0 v1 v2 v3 v4 v5 v6 : V) : (F_Chain v0 v1 v2 v3 v4 v5 v6).lookup ("full" : PySem.Str) = none := by
  unfold F_Chain
  rw [lookup_putF, if_neg (by decide +kernel), lookup_putF, if_neg (by decide +kernel), lookup_putF, if_neg (by decide +kernel), lookup_putF, if_neg (by decide +kernel), lookup_putF, if_neg (by decide +kernel), lookup_putF, if_neg (by decide +kernel), lookup_putF, if_neg (by decide +kernel)]
  rfl
theorem F_Chain_no_sound (v0 v1 v2 v3 v4 v5 v6 : V) : (F_Chain v0 v1 v2 v3 v4 v5 v6).lookup ("sound" : PySem.Str) = none := by
  unfold F_Chain
  rw [lookup_putF, if_neg (by decide +kernel), lookup_putF, if_neg (by decide +kernel), lookup_putF, if_neg (by decide +kernel), lookup_putF, if_neg (by decide +kernel), lookup_putF, if_neg (by decide +kernel), lookup_putF, if_neg (by decide +kernel), lookup_putF, if_neg (by decide +kernel)]
  rfl
theorem F_Chain_no_count (v0 v1 v2 v3 v4 v5 v6 : V) : (F_Chain v0 v1 v2 v3 v4 v5 v6).lookup ("count" : PySem.Str) = none := by
  unfold F_Chain
  rw [lookup_putF, if_neg (by decide +kernel), lookup_putF, if_neg (by decide +kernel), lookup_putF, if_neg (by decide +kernel), lookup_putF, if_neg (by decide +kernel), lookup_putF, if_neg (by decide +kernel), lookup_putF, if_neg (by decide +kernel), lookup_putF, if_neg (by decide +kernel)]
  rfl
end K98
/-! Tables of books: as lists of pairs, in the abstract heap. -/
namespace K98
open PySem PySem.Spec PyProof.Rows L2
abbrev Tbl := List (K2 × K2)
/-- what a table makes of a pair -/
def look (t : Tbl) (k : K2) : K2 := ((t.find? fun e => decide (e.1 = k)).map (·.2)).getD k
theorem look_nil (k : K2) : look [] k = k := rfl
theorem look_pos {e : K2 × K2} {r : Tbl} {k : K2} (h : e.1 = k) : look (e :: r) k = e.2 := by simp [look, List.find?_cons, h]
theorem look_neg {e : K2 × K2} {r : Tbl} {k : K2} (h : ¬ e.1 = k) : look (e :: r) k = look r k := by simp [look, List.find?_cons, h]
/-- an entry of a book of S sounds that looks at x and y sounds -/
structure EntOk (S : Int) (x y : Nat) (e : K2 × K2) : Prop where
  i1 : InS S e.1.1
  i2 : InS S e.1.2
  i3 : InS S e.2.1
  i4 : InS S e.2.2
  p1 : 1 ≤ e.1.1.length
  p2 : 1 ≤ e.1.2.length
  q1 : e.1.1.length ≤ x
  q2 : e.1.2.length ≤ y
  l1 : e.2.1.length = e.1.1.length
  l2 : e.2.2.length = e.1.2.length
theorem look_len {S : Int} {x y : Nat} : ∀ {t : Tbl}, (∀ e ∈ t, EntOk S x y e) → ∀ k, (look t k).1.length = k.1.length ∧ (look t k).2.length = k.2.length
  | [], _, k => ⟨rfl, rfl⟩
  | e :: r, h, k => by
    by_cases q : e.1 = k
    · rw [look_pos q]
      have z := h e List.mem_cons_self
      rw [← q]
      exact ⟨z.l1, z.l2⟩
    · rw [look_neg q]
      exact look_len (fun e' he => h e' (List.mem_cons_of_mem _ he)) k
theorem look_in {S : Int} {x y : Nat} : ∀ {t : Tbl}, (∀ e ∈ t, EntOk S x y e) → ∀ k, InS S k.1 → InS S k.2 → InS S (look t k).1 ∧ InS S (look t k).2
  | [], _, k, h1, h2 => ⟨h1, h2⟩
  | e :: r, h, k, h1, h2 => by
    by_cases q : e.1 = k
    · rw [look_pos q]
      have z := h e List.mem_cons_self
      exact ⟨z.i3, z.i4⟩
    · rw [look_neg q]
      exact look_in (fun e' he => h e' (List.mem_cons_of_mem _ he)) k h1 h2
theorem look_ok {S : Int} {x y : Nat} {t : Tbl} (h : ∀ e ∈ t, EntOk S x y e) : TOk S (look t) :=
  ⟨fun k => (look_len h k).1, fun k => (look_len h k).2, look_in h⟩
/-- without the entries that change nothing -/
def changing (t : Tbl) : Tbl := t.filter fun e => decide (e.1 ≠ e.2)
theorem look_out {k : K2} : ∀ {t : Tbl}, k ∉ t.map (·.1) → look t k = k
  | [], _ => rfl
  | e :: r, h => by
    rw [List.map_cons, List.mem_cons] at h
    rw [look_neg fun q => h (.inl q.symm)]
    exact look_out fun q => h (.inr q)
theorem look_changing : ∀ {t : Tbl}, (t.map (·.1)).Nodup → ∀ k, look (changing t) k = look t k
  | [], _, _ => rfl
  | e :: r, hn, k => by
    rw [List.map_cons, List.nodup_cons] at hn
    have ih := look_changing hn.2 k
    unfold changing
    rw [List.filter_cons]
    by_cases c : e.1 = e.2
    · rw [if_neg (by simp [c])]
      show look (changing r) k = _
      by_cases q : e.1 = k
      · rw [look_pos q, ih, look_out (by rw [← q]; exact hn.1), ← c, q]
      · rw [look_neg q, ih]
    · rw [if_pos (by simp [c])]
      by_cases q : e.1 = k
      · rw [look_pos q, look_pos q]
      · rw [look_neg q, look_neg q]
        exact ih
theorem changing_mem {t : Tbl} {e : K2 × K2} (h : e ∈ changing t) : e ∈ t := (List.mem_filter.mp h).1
/-- a store -/
def putT (t : Tbl) (k v : K2) : Tbl := if (t.any fun e => decide (e.1 = k)) = true then t.map (fun e => if e.1 = k then (e.1, v) else e) else t ++ [(k, v)]
theorem putT_len (t : Tbl) (k v : K2) : (putT t k v).length ≤ t.length + 1 := by
  unfold putT
  split
  · rw [List.length_map]; omega
  · rw [List.length_append, List.length_singleton]; exact Nat.le_refl _
theorem putT_mem {t : Tbl} {k v : K2} {e : K2 × K2} (h : e ∈ putT t k v) : e ∈ t ∨ e = (k, v) := by
  unfold putT at h
  split at h
  · obtain ⟨e', he, q⟩ := List.mem_map.mp h
    by_cases c : e'.1 = k
    · rw [if_pos c] at q
      exact .inr (by rw [← q, c])
    · rw [if_neg c] at q
      exact .inl (by rw [← q]; exact he)
  · rcases List.mem_append.mp h with q | q
    · exact .inl q
    · exact .inr (List.mem_singleton.mp q)

/-! ### in the heap -/
def TV (H : Hp) (p : K2 × V) (q : K2 × K2) : Prop := p.1 = q.1 ∧ ∃ a, p.2 = .ref a ∧ PairAt H a q.2
abbrev TVs (H : Hp) : List (K2 × V) → Tbl → Prop := Paired (TV H)
def TDict (P : Program) (w : World) (H : Hp) (d : Addr) (t : Tbl) : Prop := ∃ kvs, NDict pairS P w H d kvs ∧ TVs H kvs t
section
variable {P : Program} {w : World} {H H' : Hp} {d : Addr} {t : Tbl}
theorem TVs.same {kvs : List (K2 × V)} (r : TVs H kvs t) (s : Same H H') : TVs H' kvs t := Paired.mapP r fun _ _ ⟨e, a, ea, h⟩ => ⟨e, a, ea, h.same s⟩
theorem TVs.keep {kvs : List (K2 × V)} (r : TVs H kvs t) (s : Keeps H H') : TVs H' kvs t := Paired.mapP r fun _ _ ⟨e, a, ea, h⟩ => ⟨e, a, ea, h.keep s⟩
theorem TDict.same (x : TDict P w H d t) (s : Same H H') : TDict P w H' d t := by
  obtain ⟨kvs, h, r⟩ := x
  exact ⟨kvs, h.same s, TVs.same r s⟩
theorem TVs.keys {kvs : List (K2 × V)} (r : TVs H kvs t) : kvs.map (·.1) = t.map (·.1) := by
  induction r with
  | nil => rfl
  | cons h t ih => rw [List.map_cons, List.map_cons, ih, h.1]
theorem NT.keys {kvs : List (K2 × V)} {xs : List (EntG K2)} (r : NT pairS H kvs xs) : kvs.map (·.1) = xs.map (·.1) := by
  induction r with
  | nil => rfl
  | cons h t ih => rw [List.map_cons, List.map_cons, ih, h.1]
theorem TDict.nodup (x : TDict P w H d t) : (t.map (·.1)).Nodup := by
  obtain ⟨kvs, ⟨xs, _, r, n, _⟩, q⟩ := x
  rw [← TVs.keys q, NT.keys r]
  exact n
theorem TVs.val {kvs : List (K2 × V)} (r : TVs H kvs t) (k : K2) : (valV kvs k = none ∧ look t k = k) ∨ ∃ a, valV kvs k = some (.ref a) ∧ PairAt H a (look t k) := by
  induction r with
  | nil => exact .inl ⟨rfl, rfl⟩
  | @cons p q ps qs h _ ih =>
    obtain ⟨e, a, ea, ha⟩ := h
    by_cases c : p.1 = k
    · refine .inr ⟨a, by rw [valV_pos c, ea], ?_⟩
      rw [look_pos (e.symm.trans c)]
      exact ha
    · rw [valV_neg c, look_neg (fun z => c (e.trans z))]
      exact ih
theorem TVs.any {kvs : List (K2 × V)} (r : TVs H kvs t) (k : K2) : (kvs.any fun kv => decide (kv.1 = k)) = t.any fun e => decide (e.1 = k) := by
  induction r with
  | nil => rfl
  | cons h t ih => rw [List.any_cons, List.any_cons, ih, h.1]
theorem TVs.put {kvs : List (K2 × V)} (r : TVs H kvs t) (k v : K2) {a : Addr} (ha : PairAt H a v) : TVs H (putK kvs k (.ref a)) (putT t k v) := by
  unfold putK putT
  rw [TVs.any r k]
  by_cases c : (t.any fun e => decide (e.1 = k)) = true
  · rw [if_pos c, if_pos c]
    clear c
    induction r with
    | nil => exact .nil
    | @cons p q ps qs h _ ih =>
      rw [List.map_cons, List.map_cons]
      refine .cons ?_ ih
      obtain ⟨e, b, eb, hb⟩ := h
      by_cases z : p.1 = k
      · rw [if_pos z, if_pos (e.symm.trans z)]
        exact ⟨e, a, rfl, ha⟩
      · rw [if_neg z, if_neg (fun y => z (e.trans y))]
        exact ⟨e, b, eb, hb⟩
  · rw [if_neg c, if_neg c]
    exact Paired.snoc r ⟨rfl, a, rfl, ha⟩
theorem TVs.at_ {kvs : List (K2 × V)} (r : TVs H kvs t) {i : Nat} {k : K2} {v : V} (h : kvs[i]? = some (k, v)) : ∃ a z, v = .ref a ∧ PairAt H a z ∧ t[i]? = some (k, z) := by
  obtain ⟨⟨k', z⟩, h1, e, a, ea, ha⟩ := paired_get r h
  have e' : k = k' := e
  subst e'
  exact ⟨a, z, ea, ha, h1⟩
end

/-! ### books -/
/-- at p stands a book of S sounds, looking at a and b, that does T -/
structure BookAt (P : Program) (w : World) (C : Addr) (H : Hp) (p : Addr) (S a b : Nat) (T : K2 → K2) : Prop where
  ob : ∃ dx d t, H p = some (.ins C dx (F_Book (.int S) (.int a) (.int b) (.ref d))) ∧ TDict P w H d t ∧ ∀ k, look t k = T k
  ok : TOk S T
  s8 : S ≤ 8
  a1 : 1 ≤ a
  a4 : a ≤ 4
  b1 : 1 ≤ b
  b4 : b ≤ 4
theorem BookAt.same {P : Program} {w : World} {C : Addr} {H H' : Hp} {p : Addr} {S a b : Nat} {T : K2 → K2} (x : BookAt P w C H p S a b T) (s : Same H H') : BookAt P w C H' p S a b T := by
  obtain ⟨⟨dx, d, t, h1, h2, h3⟩, r1, r2, r3, r4, r5, r6⟩ := x
  exact ⟨⟨dx, d, t, s _ _ h1, h2.same s, h3⟩, r1, r2, r3, r4, r5, r6⟩
end K98
/-! The checks. -/
namespace K98
open PySem PySem.Spec PyProof.Rows L2
section
variable {P : Program} {w : World} {K : PySem.W.Frag} {mg : PySem.Str → Option Value} {base : Heap}
/-! ### is_integer, is_between, is_index, check_number -/
def spIsInteger : Sp := fun vs H Q _ => ∃ i, vs = [.int i] ∧ Q (.bl true) H
theorem ok_is_integer (Z : Defs K mg) : FnOk P w K mg base CX0 1 Z.is_integer.f Z.is_integer.fd ["thing"] spIsInteger := by
  refine Z.is_integer.F.ok sc_is_integer (fun vs H Q E h => ?_) (fun cdv A outer s H vs Q E hr h => ?_)
  · obtain ⟨i, rfl, _⟩ := h
    rfl
  · obtain ⟨i, rfl, q⟩ := h
    refine ⟨_, (pss_one (ps_ret (pe_and (pe_callB call_isi (by rfl) Z.b_isinstance (by decide +kernel) (pa_cons (pv 0) (pa_cons (pe_bltn (v := .ty "int") (by rfl) Z.b_int boot_int rfl) pa_nil))) (pe_one (pe_not (pe_callB call_isi (by rfl) Z.b_isinstance (by decide +kernel) (pa_cons (pv 0) (pa_cons (pe_bltn (v := .ty "bool") (by rfl) Z.b_bool boot_bool rfl) pa_nil)))))))), ?_⟩
    refine ⟨_, rfl, .int i, .ty "int", .type "int", .type "int", true, rfl, .ty _, .base (.int i), kit_ty (by decide +kernel), true, rfl, iteT ?_⟩
    exact ⟨_, rfl, .int i, .ty "bool", .type "int", .type "bool", false, rfl, .ty _, .base (.int i), kit_ty (by decide +kernel), false, rfl, q⟩
def spIsBetween : Sp := fun vs H Q _ => ∃ i l m, vs = [.int i, .int l, .int m] ∧ Q (.bl (decide (l ≤ i ∧ i ≤ m))) H
theorem ok_is_between (Z : Defs K mg) : FnOk P w K mg base CX0 2 Z.is_between.f Z.is_between.fd ["thing", "least", "most"] spIsBetween := by
  refine Z.is_between.F.ok sc_is_between (fun vs H Q E h => ?_) (fun cdv A outer s H vs Q E hr h => ?_)
  · obtain ⟨i, l, m, rfl, _⟩ := h
    rfl
  · obtain ⟨i, l, m, rfl, q⟩ := h
    refine ⟨_, (pss_one (ps_ret (pe_and (pe_call (ok_is_integer (P := P) (w := w) Z) (hr.mono (by decide)) (by rfl) Z.is_integer.g Z.is_integer.F.kp Z.is_integer.b .nil pass0 (pa_cons (pv 0) pa_nil)) (pe_one (pe_chain op_le op_le (pv 1) (pv 0) (pv 2)))))), ?_⟩
    refine ⟨_, rfl, i, rfl, true, rfl, iteT ?_⟩
    refine ⟨_, rfl, _, rfl, l, i, rfl, rfl, _, rfl, ?_⟩
    refine ite2 (fun e => ?_) (fun e => ?_)
    · refine ⟨_, rfl, i, m, rfl, rfl, ?_⟩
      have e1 : l ≤ i := of_decide_eq_true e
      have e2 : decide (l ≤ i ∧ i ≤ m) = decide (i ≤ m) := by simp [e1]
      rw [e2] at q
      exact q
    · have e1 : ¬ l ≤ i := fun z => e (decide_eq_true z)
      have e2 : decide (l ≤ i ∧ i ≤ m) = false := by simp [e1]
      rw [e2] at q
      exact q
def spIsIndex : Sp := fun vs H Q _ => ∃ i m, vs = [.int i, .int m] ∧ Q (.bl (decide (0 ≤ i ∧ i ≤ m - 1))) H
theorem ok_is_index (Z : Defs K mg) : FnOk P w K mg base CX0 3 Z.is_index.f Z.is_index.fd ["thing", "many"] spIsIndex := by
  refine Z.is_index.F.ok sc_is_index (fun vs H Q E h => ?_) (fun cdv A outer s H vs Q E hr h => ?_)
  · obtain ⟨i, m, rfl, _⟩ := h
    rfl
  · obtain ⟨i, m, rfl, q⟩ := h
    refine ⟨_, (pss_one (ps_ret (pe_call (ok_is_between (P := P) (w := w) Z) (hr.mono (by decide)) (by rfl) Z.is_between.g Z.is_between.F.kp Z.is_between.b .nil pass0 (pa_cons (pv 0) (pa_cons pe_int (pa_cons (pe_op op_sub (pv 1) pe_int) pa_nil)))))), ?_⟩
    exact ⟨_, rfl, _, rfl, _, _, rfl, rfl, i, 0, m - 1, rfl, q⟩
def spCheckNumber : Sp := fun vs H Q _ => ∃ i l m, vs = [.int i, .int l, .int m] ∧ l ≤ i ∧ i ≤ m ∧ Q .non H
theorem ok_check_number (Z : Defs K mg) : FnOk P w K mg base CX0 3 Z.check_number.f Z.check_number.fd ["thing", "least", "most"] spCheckNumber := by
  refine Z.check_number.F.ok sc_check_number (fun vs H Q E h => ?_) (fun cdv A outer s H vs Q E hr h => ?_)
  · obtain ⟨i, l, m, rfl, _⟩ := h
    rfl
  · obtain ⟨i, l, m, rfl, h1, h2, q⟩ := h
    refine ⟨_, (pss_one (ps_if (pt_not (pt_val (pe_call (ok_is_between (P := P) (w := w) Z) (hr.mono (by decide)) (by rfl) Z.is_between.g Z.is_between.F.kp Z.is_between.b .nil pass0 (pa_cons (pv 0) (pa_cons (pv 1) (pa_cons (pv 2) pa_nil))))))
        (pss_one ps_never)
        pss_nil)), ?_⟩
    refine ⟨_, rfl, _, rfl, _, rfl, i, l, m, rfl, true, ?_, iteF q⟩
    rw [decide_eq_true ⟨h1, h2⟩]
/-! ### is_sounds -/
def spIsSounds : Sp := fun vs H Q _ => ∃ a r S l m, vs = [.ref a, .int S, .int l, .int m] ∧ RowAt H a r ∧ InS S r ∧ l ≤ (r.length : Int) ∧ (r.length : Int) ≤ m ∧ r.length ≤ 1000 ∧ ∀ H', Same H H' → Q (.bl true) H'
theorem ok_is_sounds (Z : Defs K mg) : FnOk P w K mg base CX0 4 Z.is_sounds.f Z.is_sounds.fd ["thing", "sounds", "least", "most"] spIsSounds := by
  refine Z.is_sounds.F.ok sc_is_sounds (fun vs H Q E h => ?_) (fun cdv A outer s H vs Q E hr h => ?_)
  · obtain ⟨a, r, S, l, m, rfl, _⟩ := h
    rfl
  · obtain ⟨a, r, S, l, m, rfl, hA, hS, h1, h2, h3, q⟩ := h
    refine ⟨_, (pss_cons (ps_if (PW.pt (pw_or (pt_not (pt_val (pe_callB call_isi (by rfl) Z.b_isinstance (by decide +kernel) (pa_cons (pv 0) (pa_cons (pe_bltn (v := .ty "tuple") (by rfl) Z.b_tuple boot_tuple rfl) pa_nil))))) (pw_or1 (pt_not (pt_chain op_le op_le (pv 2) (pe_callB call_len_row (by rfl) Z.b_len PySem.boot_len (pa_cons (pv 0) pa_nil)) (pv 3))))))
        (pss_one (ps_ret pe_bl))
        pss_nil)
        (pss_one (ps_ret (pe_callB (cr_all rfl) (by rfl) Z.b_all (by decide +kernel) (pa_cons (pe_lc (own := [("sound", 4)]) (g := gName 4) (by rfl) sc_is_sounds.nd (pi_tup (pv 0)) (blkOk_by (own := [("sound", 4)]) (N := ["thing", "sounds", "least", "most", "sound"]) (sc := defScope s_is_sounds) (by decide +kernel)) (fun _ _ _ _ _ => (pg_name (i := 4) sc_is_sounds.nd rfl (Or.inl rfl))) (fun _ _ _ _ _ => pts_nil) (fun _ _ _ _ _ => (pe_call (ok_is_index (P := P) (w := w) Z) (hr.mono (by decide)) (by rfl) Z.is_index.g Z.is_index.F.kp Z.is_index.b .nil pass0 (pa_cons (pv 4) (pa_cons (pv 1) pa_nil))))) pa_nil))))), ?_⟩
    obtain ⟨its, hA0⟩ := id hA
    refine ⟨_, rfl, .ref a, .ty "tuple", .type "tuple", .type "tuple", true, rfl, .ty _, .fTuple hA0, kit_ty (by decide +kernel), true, rfl, iteF ?_⟩
    refine ⟨_, rfl, _, rfl, a, r, rfl, hA, l, r.length, rfl, rfl, true, congrArg V.bl (decide_eq_true h1), iteT ?_⟩
    refine ⟨_, rfl, r.length, m, rfl, rfl, true, congrArg V.bl (decide_eq_true h2), iteF ?_⟩
    -- all([is_index(sound, sounds) for sound in thing])
    refine ⟨_, rfl, a, rfl, ⟨_, hA.sq⟩, fun D hD => ?_⟩
    refine lc_tup (K := K) (a := a) (xs := vr r) (fun i H' => Same H H' ∧ H' D = some (.lst ((List.replicate i true).map V.bl))) ⟨same_new hD, upd_same⟩ (fun i H' _ h' => (hA.same h'.1).sq) ?_ ?_
    · rintro i x H' hx ⟨s1, hd⟩
      obtain ⟨y, rfl, hy⟩ : ∃ y, x = V.int y ∧ r[i]? = some y := by
        unfold vr at hx
        rw [List.getElem?_map] at hx
        cases e : r[i]? with
        | none => rw [e] at hx; cases hx
        | some y => rw [e] at hx; exact ⟨y, (Option.some.inj hx).symm, rfl⟩
      have hyr := hS y (List.mem_of_getElem? hy)
      refine ⟨rfl, _, rfl, _, rfl, y, S, rfl, _, hd, ?_, ?_, ?_⟩
      · have := (List.getElem?_eq_some_iff.mp hy).1
        rw [List.length_map, List.length_replicate]
        exact small1000 (by omega)
      · exact Same.upd_fresh s1 hD
      · rw [upd_same, decide_eq_true (⟨hyr.1, by omega⟩ : 0 ≤ y ∧ y ≤ S - 1), List.replicate_succ', List.map_append]
        rfl
    · rintro H' ⟨s1, hd⟩
      refine ⟨D, List.replicate (vr r).length true, rfl, SqL.of hd, ?_⟩
      have e : (List.replicate (vr r).length true).all id = true := by simp
      rw [e]
      exact q H' s1
end
end K98
/-! Books: checked, kept, looked up. -/
namespace K98
open PySem PySem.Spec PyProof.Rows L2
section
variable {P : Program} {w : World} {K : PySem.W.Frag} {mg : PySem.Str → Option Value} {base : Heap}
/-! ### is_side_pair -/
def spIsSidePair : Sp := fun vs H Q _ => ∃ a k S x y, vs = [.ref a, .int S, .int x, .int y] ∧ PairAt H a k ∧ InS S (Prod.fst k) ∧ InS S (Prod.snd k) ∧ 1 ≤ (Prod.fst k).length ∧ 1 ≤ (Prod.snd k).length ∧ ((Prod.fst k).length : Int) ≤ x ∧ ((Prod.snd k).length : Int) ≤ y ∧ x ≤ 1000 ∧ y ≤ 1000 ∧ ∀ H', Same H H' → Q (.bl true) H'
theorem ok_is_side_pair (Z : Defs K mg) : FnOk P w K mg base CX0 5 Z.is_side_pair.f Z.is_side_pair.fd ["thing", "sounds", "ahead", "behind"] spIsSidePair := by
  refine Z.is_side_pair.F.ok sc_is_side_pair (fun vs H Q E h => ?_) (fun cdv A outer s H vs Q E hr h => ?_)
  · obtain ⟨a, k, S, x, y, rfl, _⟩ := h
    rfl
  · obtain ⟨a, k, S, x, y, rfl, ⟨b, c, h0, hb, hc⟩, i1, i2, l1, l2, m1, m2, x1, y1, q⟩ := h
    refine ⟨_, (pss_cons (ps_if (PW.pt (pw_or (pt_not (pt_val (pe_callB call_isi (by rfl) Z.b_isinstance (by decide +kernel) (pa_cons (pv 0) (pa_cons (pe_bltn (v := .ty "tuple") (by rfl) Z.b_tuple boot_tuple rfl) pa_nil))))) (pw_or1 (pt_cmpR op_ne (pe_callB call_len_seq (by rfl) Z.b_len PySem.boot_len (pa_cons (pv 0) pa_nil)) pe_int (nomark _)))))
        (pss_one (ps_ret pe_bl))
        pss_nil)
        (pss_one (ps_ret (pe_and (pe_call (ok_is_sounds (P := P) (w := w) Z) (hr.mono (by decide)) (by rfl) Z.is_sounds.g Z.is_sounds.F.kp Z.is_sounds.b .nil pass0 (pa_cons (pe_ix ix_pair (pv 0) pe_int (fun _ _ => rfl)) (pa_cons (pv 1) (pa_cons pe_int (pa_cons (pv 2) pa_nil))))) (pe_one (pe_call (ok_is_sounds (P := P) (w := w) Z) (hr.mono (by decide)) (by rfl) Z.is_sounds.g Z.is_sounds.F.kp Z.is_sounds.b .nil pass0 (pa_cons (pe_ix ix_pair (pv 0) pe_int (fun _ _ => rfl)) (pa_cons (pv 1) (pa_cons pe_int (pa_cons (pv 3) pa_nil)))))))))), ?_⟩
    refine ⟨_, rfl, .ref a, .ty "tuple", .type "tuple", .type "tuple", true, rfl, .ty _, .base (.tup h0), kit_ty (by decide +kernel), true, rfl, iteF ?_⟩
    refine ⟨_, rfl, a, _, rfl, .inr (SqT.of h0), rfl, false, rfl, iteF ?_⟩
    refine ⟨_, rfl, a, k, b, c, rfl, h0, hb, hc, .inl ⟨rfl, ?_⟩⟩
    refine ⟨_, rfl, _, rfl, b, k.1, S, 1, x, rfl, hb, i1, by omega, m1, by omega, fun H1 s1 => ?_⟩
    refine ⟨true, rfl, iteT ?_⟩
    refine ⟨_, rfl, a, k, b, c, rfl, s1 _ _ h0, hb.same s1, hc.same s1, .inr ⟨rfl, ?_⟩⟩
    refine ⟨_, rfl, _, rfl, c, k.2, S, 1, y, rfl, hc.same s1, i2, by omega, m2, by omega, fun H2 s2 => ?_⟩
    exact q H2 (s1.trans s2)
/-! ### check_sizes -/
def spCheckSizes : Sp := fun vs H Q _ => ∃ S a b, vs = [.int S, .int a, .int b] ∧ 1 ≤ S ∧ S ≤ 8 ∧ 1 ≤ a ∧ a ≤ 4 ∧ 1 ≤ b ∧ b ≤ 4 ∧ Q .non H
theorem ok_check_sizes (Z : Defs K mg) : FnOk P w K mg base CX0 3 Z.check_sizes.f Z.check_sizes.fd ["sounds", "ahead", "behind"] spCheckSizes := by
  refine Z.check_sizes.F.ok sc_check_sizes (fun vs H Q E h => ?_) (fun cdv A outer s H vs Q E hr h => ?_)
  · obtain ⟨S, a, b, rfl, _⟩ := h
    rfl
  · obtain ⟨S, a, b, rfl, h1, h2, h3, h4, h5, h6, q⟩ := h
    refine ⟨_, (pss_cons (ps_if (pt_not (pt_val (pe_call (ok_is_between (P := P) (w := w) Z) (hr.mono (by decide)) (by rfl) Z.is_between.g Z.is_between.F.kp Z.is_between.b .nil pass0 (pa_cons (pv 0) (pa_cons pe_int (pa_cons (pe_glob (v := .int 8) rfl Z.c_MOST_SOUNDS.choose_spec ⟨_, rfl⟩) pa_nil))))))
        (pss_one ps_never)
        pss_nil)
        (pss_cons (ps_if (pt_not (pt_val (pe_call (ok_is_between (P := P) (w := w) Z) (hr.mono (by decide)) (by rfl) Z.is_between.g Z.is_between.F.kp Z.is_between.b .nil pass0 (pa_cons (pv 1) (pa_cons pe_int (pa_cons (pe_glob (v := .int 4) rfl Z.c_MOST_SIDE.choose_spec ⟨_, rfl⟩) pa_nil))))))
        (pss_one ps_never)
        pss_nil)
        (pss_one (ps_if (pt_not (pt_val (pe_call (ok_is_between (P := P) (w := w) Z) (hr.mono (by decide)) (by rfl) Z.is_between.g Z.is_between.F.kp Z.is_between.b .nil pass0 (pa_cons (pv 2) (pa_cons pe_int (pa_cons (pe_glob (v := .int 4) rfl Z.c_MOST_SIDE.choose_spec ⟨_, rfl⟩) pa_nil))))))
        (pss_one ps_never)
        pss_nil)))), ?_⟩
    refine ⟨_, rfl, S, 1, 8, rfl, true, congrArg V.bl (decide_eq_true ⟨h1, h2⟩), iteF ?_⟩
    refine ⟨_, rfl, a, 1, 4, rfl, true, congrArg V.bl (decide_eq_true ⟨h3, h4⟩), iteF ?_⟩
    exact ⟨_, rfl, b, 1, 4, rfl, true, congrArg V.bl (decide_eq_true ⟨h5, h6⟩), iteF q⟩
/-! ### told -/
def spTold (P : Program) (w : World) (C : Addr) : Sp := fun vs H Q _ => ∃ p l r kl kr S a b T, vs = [.ref p, .ref l, .ref r] ∧ BookAt P w C H p S a b T ∧ RowAt H l kl ∧ RowAt H r kr ∧ ∀ q H', Same H H' → PairAt H' q (T (kl, kr)) → Q (.ref q) H'
theorem ok_told (Z : Defs K mg) : FnOk P w K mg base CX0 1 Z.told.f Z.told.fd ["book", "left", "right"] (spTold P w Z.CBook) := by
  refine Z.told.F.ok sc_told (fun vs H Q E h => ?_) (fun cdv A outer s H vs Q E hr h => ?_)
  · obtain ⟨p, l, r, kl, kr, S, a, b, T, rfl, _⟩ := h
    rfl
  · obtain ⟨p, l, r, kl, kr, S, a, b, T, rfl, B, hl, hr', q⟩ := h
    obtain ⟨dx, d, t, h1, ⟨kvs, n, tv⟩, hT⟩ := B.ob
    refine ⟨_, (pss_one (ps_ret (pe_nget2 pairS hr.units (pe_fld (pv 0) rfl) (pe_pairR (pv 1) (pv 2)) (pe_pairR (pv 1) (pv 2)) ⟨rfl, rfl, rfl, rfl⟩))), ?_⟩
    refine ⟨_, rfl, p, Z.CBook, dx, _, _, rfl, h1, Z.Book.cl, Z.Book.a_kept_table, F_Book_kept_table _ _ _ _, d, kvs, rfl, n.rd, ?_⟩
    refine ⟨_, rfl, _, rfl, l, r, kl, kr, rfl, hl, hr', fun k1 H1 s1 e1 => ?_⟩
    refine ⟨_, rfl, _, rfl, l, r, kl, kr, rfl, hl.same s1, hr'.same s1, fun k2 H2 s2 e2 => ?_⟩
    have s12 := s1.trans s2
    refine ⟨k1, (kl, kr), kvs, rfl, (n.same s12).rd, e1.same s2, ?_⟩
    rcases TVs.val tv (kl, kr) with ⟨e, z⟩ | ⟨a', e, z⟩
    · rw [e]
      refine q k2 H2 s12 ?_
      rw [← hT, z]
      exact e2
    · rw [e]
      refine q a' H2 s12 ?_
      rw [← hT]
      exact z.same s12
/-! ### is_word, check_word -/
def spIsWord : Sp := fun vs H Q _ => ∃ a r S, vs = [.ref a, .int S] ∧ RowAt H a r ∧ InS S r ∧ 1 ≤ r.length ∧ r.length ≤ 200 ∧ ∀ H', Same H H' → Q (.bl true) H'
theorem ok_is_word (Z : Defs K mg) : FnOk P w K mg base CX0 5 Z.is_word.f Z.is_word.fd ["thing", "sounds"] spIsWord := by
  refine Z.is_word.F.ok sc_is_word (fun vs H Q E h => ?_) (fun cdv A outer s H vs Q E hr h => ?_)
  · obtain ⟨a, r, S, rfl, _⟩ := h
    rfl
  · obtain ⟨a, r, S, rfl, hA, hS, h1, h2, q⟩ := h
    refine ⟨_, (pss_one (ps_ret (pe_call (ok_is_sounds (P := P) (w := w) Z) (hr.mono (by decide)) (by rfl) Z.is_sounds.g Z.is_sounds.F.kp Z.is_sounds.b .nil pass0 (pa_cons (pv 0) (pa_cons (pv 1) (pa_cons pe_int (pa_cons (pe_glob (v := .int 200) rfl Z.c_MOST_WORD.choose_spec ⟨_, rfl⟩) pa_nil))))))), ?_⟩
    exact ⟨_, rfl, _, rfl, a, r, S, 1, 200, rfl, hA, hS, by omega, by omega, by omega, q⟩
/-- what is asked of a book and a word of it -/
structure WordAt (P : Program) (w : World) (C : Addr) (H : Hp) (p x : Addr) (S a b : Nat) (T : K2 → K2) (r : Row) : Prop where
  bk : BookAt P w C H p S a b T
  row : RowAt H x r
  sd : InS (S : Int) r
  w1 : 1 ≤ r.length
  w2 : r.length ≤ 200
theorem WordAt.same {P : Program} {w : World} {C : Addr} {H H' : Hp} {p x : Addr} {S a b : Nat} {T : K2 → K2} {r : Row} (h : WordAt P w C H p x S a b T r) (s : Same H H') : WordAt P w C H' p x S a b T r := ⟨h.bk.same s, h.row.same s, h.sd, h.w1, h.w2⟩
def spCheckWord (P : Program) (w : World) (C : Addr) : Sp := fun vs H Q _ => ∃ p x S a b T r, vs = [.ref p, .ref x] ∧ WordAt P w C H p x S a b T r ∧ ∀ H', Same H H' → Q .non H'
theorem ok_check_word (Z : Defs K mg) : FnOk P w K mg base CX0 6 Z.check_word.f Z.check_word.fd ["book", "thing"] (spCheckWord P w Z.CBook) := by
  refine Z.check_word.F.ok sc_check_word (fun vs H Q E h => ?_) (fun cdv A outer s H vs Q E hr h => ?_)
  · obtain ⟨p, x, S, a, b, T, r, rfl, _⟩ := h
    rfl
  · obtain ⟨p, x, S, a, b, T, r, rfl, W, q⟩ := h
    obtain ⟨dx, d, t, h1, _, _⟩ := W.bk.ob
    refine ⟨_, (pss_one (ps_if (pt_not (pt_val (pe_call (ok_is_word (P := P) (w := w) Z) (hr.mono (by decide)) (by rfl) Z.is_word.g Z.is_word.F.kp Z.is_word.b .nil pass0 (pa_cons (pv 1) (pa_cons (pe_fld (pv 0) rfl) pa_nil)))))
        (pss_one ps_never)
        pss_nil)), ?_⟩
    refine ⟨_, rfl, _, rfl, p, Z.CBook, dx, _, _, rfl, h1, Z.Book.cl, Z.Book.a_kept_sounds, F_Book_kept_sounds _ _ _ _, x, r, S, rfl, W.row, W.sd, W.w1, W.w2, fun H1 s1 => ?_⟩
    exact ⟨true, rfl, iteF (q H1 s1)⟩
/-! ### joined_rows, met_rows -/
def spJoined (P : Program) (w : World) (C : Addr) : Sp := fun vs H Q _ => ∃ p x y r1 r2 S a b T, vs = [.ref p, .ref x, .ref y] ∧ BookAt P w C H p S a b T ∧ RowAt H x r1 ∧ RowAt H y r2 ∧ r1.length ≤ 10000 ∧ r2.length ≤ 10000 ∧
  ∀ q H', Same H H' → PairAt H' q (r1.take (r1.length - a) ++ (T (lastN a r1, r2.take b)).1, (T (lastN a r1, r2.take b)).2 ++ r2.drop b) → Q (.ref q) H'
theorem line20000 {n : Nat} (h : n ≤ 20000) : n ≤ sizeLine := Nat.le_trans h (by decide)
theorem ok_joined_rows (Z : Defs K mg) : FnOk P w K mg base CX0 2 Z.joined_rows.f Z.joined_rows.fd ["book", "one", "other"] (spJoined P w Z.CBook) := by
  refine Z.joined_rows.F.ok sc_joined_rows (fun vs H Q E h => ?_) (fun cdv A outer s H vs Q E hr h => ?_)
  · obtain ⟨p, x, y, r1, r2, S, a, b, T, rfl, _⟩ := h
    rfl
  · obtain ⟨p, x, y, r1, r2, S, a, b, T, rfl, B, hx, hy, n1, n2, q⟩ := h
    obtain ⟨dx, d, t, h1, hd, hT⟩ := B.ob
    refine ⟨_, (pss_cons (ps_set (i := 3) sc_joined_rows.nd rfl (Or.inl rfl) (pe_slice sl_row (pv 1) (po_some (pe_un un_neg (pe_fld (pv 0) rfl))) po_none))
        (pss_cons (ps_set (i := 4) sc_joined_rows.nd rfl (Or.inl rfl) (pe_slice sl_row (pv 2) po_none (po_some (pe_fld (pv 0) rfl))))
        (pss_cons (ps_asg (pe_call (ok_told (P := P) (w := w) Z) (hr.mono (by decide)) (by rfl) Z.told.g Z.told.F.kp Z.told.b .nil pass0 (pa_cons (pv 0) (pa_cons (pv 3) (pa_cons (pv 4) pa_nil)))) (pg_tup rfl (pgs_cons (pg_name (i := 5) sc_joined_rows.nd rfl (Or.inl rfl)) (pgs_cons (pg_name (i := 6) sc_joined_rows.nd rfl (Or.inl rfl)) pgs_nil))))
        (pss_one (ps_ret (pe_pairR (pe_op op_catR (pe_slice sl_row (pv 1) po_none (po_some (pe_op op_sub (pe_callB call_len_row (by rfl) Z.b_len PySem.boot_len (pa_cons (pv 1) pa_nil)) (pe_callB call_len_row (by rfl) Z.b_len PySem.boot_len (pa_cons (pv 3) pa_nil))))) (pv 5)) (pe_op op_catR (pv 6) (pe_slice sl_row (pv 2) (po_some (pe_callB call_len_row (by rfl) Z.b_len PySem.boot_len (pa_cons (pv 4) pa_nil))) po_none)))))))), ?_⟩
    -- left = one[-book.kept_ahead :]
    refine ⟨_, rfl, _, rfl, p, Z.CBook, dx, _, _, rfl, h1, Z.Book.cl, Z.Book.a_kept_ahead, F_Book_kept_ahead _ _ _ _, a, rfl, _, rfl, x, r1, rfl, hx, fun l H1 s1 e1 => ?_⟩
    rw [cutR_last _ _ B.a1] at e1
    -- right = other[: book.kept_behind]
    refine ⟨_, rfl, _, rfl, p, Z.CBook, dx, _, _, rfl, s1 _ _ h1, Z.Book.cl, Z.Book.a_kept_behind, F_Book_kept_behind _ _ _ _, b, rfl, y, r2, rfl, hy.same s1, fun r H2 s2 e2 => ?_⟩
    rw [cutR_upto] at e2
    have s12 := s1.trans s2
    -- new_left, new_right = told(book, left, right)
    refine ⟨_, rfl, _, rfl, _, rfl, p, l, r, lastN a r1, r2.take b, S, a, b, T, rfl, B.same s12, e1.same s2, e2, fun z H3 s3 e3 => ?_⟩
    obtain ⟨nl, nr, hz, hnl, hnr⟩ := e3
    have s13 := s12.trans s3
    refine ⟨z, _, rfl, SqT.of hz, rfl, _, _, rfl, _, _, rfl, rfl, ?_⟩
    -- one[: len(one) - len(left)] + new_left
    refine ⟨_, rfl, _, rfl, x, r1, rfl, hx.same s13, _, rfl, l, lastN a r1, rfl, (e1.same s2).same s3, _, _, rfl, rfl, r1.length - min a r1.length, ?_, x, r1, rfl, hx.same s13, fun u H4 s4 e4 => ?_⟩
    · rw [lastN_len]
    have s14 := s13.trans s4
    have e5 : RowAt H4 u (r1.take (r1.length - a)) := by
      have : ((r1.length : Int) - ((min a r1.length : Nat) : Int)) = ((r1.length - a : Nat) : Int) := by omega
      rw [this, cutR_upto] at e4
      exact e4
    refine ⟨_, rfl, u, nl, _, _, rfl, rfl, e5, hnl.same s4, ?_, fun v H5 s5 e6 => ?_⟩
    · rw [B.ok.l1, List.length_take, lastN_len]
      exact line20000 (by omega)
    -- new_right + other[len(right) :]
    refine ⟨_, rfl, _, rfl, _, rfl, r, r2.take b, rfl, (((e2.same s3).same s4).same s5), _, rfl, y, r2, rfl, (hy.same s14).same s5, fun u2 H6 s6 e7 => ?_⟩
    rw [cutR_from] at e7
    have e8 : RowAt H6 u2 (r2.drop b) := by
      have : r2.drop (r2.take b).length = r2.drop b := by
        rw [List.length_take]
        by_cases c : b ≤ r2.length
        · rw [Nat.min_eq_left c]
        · rw [Nat.min_eq_right (by omega), List.drop_length, List.drop_eq_nil_of_le (by omega)]
      rw [this] at e7
      exact e7
    refine ⟨nr, u2, _, _, rfl, rfl, ((hnr.same s4).same s5).same s6, e8, ?_, fun v2 H7 s7 e9 => ?_⟩
    · rw [B.ok.l2, List.length_take, List.length_drop]
      exact line20000 (by omega)
    refine ⟨v, v2, _, _, rfl, (e6.same s6).same s7, e9, fun q0 H8 s8 e10 => ?_⟩
    exact q q0 H8 ((((s14.trans s5).trans s6).trans s7).trans s8) e10
def spMet (P : Program) (w : World) (C : Addr) : Sp := fun vs H Q _ => ∃ p x y r1 r2 S a b T, vs = [.ref p, .ref x, .ref y] ∧ BookAt P w C H p S a b T ∧ RowAt H x r1 ∧ RowAt H y r2 ∧ r1.length ≤ 10000 ∧ r2.length ≤ 10000 ∧ ∀ q H', Same H H' → RowAt H' q (met T a b r1 r2) → Q (.ref q) H'
theorem ok_met_rows (Z : Defs K mg) : FnOk P w K mg base CX0 3 Z.met_rows.f Z.met_rows.fd ["book", "one", "other"] (spMet P w Z.CBook) := by
  refine Z.met_rows.F.ok sc_met_rows (fun vs H Q E h => ?_) (fun cdv A outer s H vs Q E hr h => ?_)
  · obtain ⟨p, x, y, r1, r2, S, a, b, T, rfl, _⟩ := h
    rfl
  · obtain ⟨p, x, y, r1, r2, S, a, b, T, rfl, B, hx, hy, n1, n2, q⟩ := h
    refine ⟨_, (pss_cons (ps_asg (pe_call (ok_joined_rows (P := P) (w := w) Z) (hr.mono (by decide)) (by rfl) Z.joined_rows.g Z.joined_rows.F.kp Z.joined_rows.b .nil pass0 (pa_cons (pv 0) (pa_cons (pv 1) (pa_cons (pv 2) pa_nil)))) (pg_tup rfl (pgs_cons (pg_name (i := 3) sc_met_rows.nd rfl (Or.inl rfl)) (pgs_cons (pg_name (i := 4) sc_met_rows.nd rfl (Or.inl rfl)) pgs_nil))))
        (pss_one (ps_ret (pe_op op_catR (pv 3) (pv 4))))), ?_⟩
    refine ⟨_, rfl, _, rfl, _, rfl, p, x, y, r1, r2, S, a, b, T, rfl, B, hx, hy, n1, n2, fun z H1 s1 e1 => ?_⟩
    obtain ⟨u, v, hz, hu, hv⟩ := e1
    refine ⟨z, _, rfl, SqT.of hz, rfl, _, _, rfl, _, _, rfl, rfl, ?_⟩
    refine ⟨_, rfl, _, rfl, u, v, _, _, rfl, rfl, hu, hv, ?_, fun q0 H2 s2 e2 => ?_⟩
    · rw [List.length_append, List.length_append, B.ok.l1, B.ok.l2, List.length_take, List.length_drop, List.length_take, lastN_len]
      exact line20000 (by omega)
    · refine q q0 H2 (s1.trans s2) ?_
      have : met T a b r1 r2 = r1.take (r1.length - a) ++ (T (lastN a r1, r2.take b)).1 ++ ((T (lastN a r1, r2.take b)).2 ++ r2.drop b) := by
        unfold met
        rw [List.append_assoc]
      rw [this]
      exact e2
end
end K98
/-! Books made. -/
namespace K98
open PySem PySem.Spec PyProof.Rows L2
/-! ### walks over the locked dict, by a word -/
section
variable {P : Program} {w : World} {d : Addr} {o : Obj} {kvs : List (K2 × V)}
theorem for_nkeys {g : TG} {tb : TS} {D : Ends} {σ : St} {H : Hp} (Pv : Nat → St → Hp → Prop) (h0 : Pv 0 σ H) (hl : ∀ i σ H, i ≤ kvs.length → Pv i σ H → NFz pairS P w H d o kvs)
    (hs : ∀ i k v q σ H, kvs[i]? = some (k, v) → PairAt H q k → Pv i σ H → g (.ref q) σ H fun σ2 H2 => tb { D with nx := Pv (i + 1), ct := Pv (i + 1), bk := D.nx } σ2 H2) (hd : ∀ σ H, Pv kvs.length σ H → D.nx σ H) :
    ∃ W : Nat → Nat → St → Hp → Prop, (∃ m, W 0 m σ H) ∧ ∀ i m σ H, W i m σ H →
      ((Itn pairS P w d o kvs).stop i H ∧ D.nx σ H) ∨ ((Itn pairS P w d o kvs).go i H ∧ ∃ N : St → Hp → Prop, (∀ σ' H', N σ' H' → ∃ m', m' < m ∧ W (i + 1) m' σ' H') ∧ ∀ x H', (Itn pairS P w d o kvs).yld i H x H' → g x σ H' fun σ2 H2 => tb { D with nx := N, ct := N, bk := D.nx } σ2 H2) := by
  refine ⟨fun i m σ H => m = kvs.length - i ∧ i ≤ kvs.length ∧ Pv i σ H, ⟨kvs.length, by simp, Nat.zero_le _, h0⟩, ?_⟩
  rintro i m σ H ⟨rfl, hi, p⟩
  have q := hl i σ H hi p
  by_cases hlt : i < kvs.length
  · refine .inr ⟨⟨q, hlt⟩, Pv (i + 1), fun σ' H' p' => ⟨kvs.length - (i + 1), by omega, rfl, hlt, p'⟩, fun x H' y => ?_⟩
    obtain ⟨e, k, v, c, e1, e2, e3⟩ := y
    subst e e2
    exact hs i k v c σ _ e1 e3 p
  · have e : i = kvs.length := by omega
    subst e
    exact .inl ⟨⟨q, Nat.le_refl _⟩, hd σ H p⟩
theorem ndc_pairs {g : TG} {tt : TT} {tk tv : TE} {vs : List Nat} {σ : St} {H1 : Hp} {D : Addr} {Qd : Hp → Prop} (Pv : Nat → Hp → Prop) (h0 : Pv 0 (upd H1 D (dN pairS P w D []))) (hl : ∀ i H, i ≤ kvs.length → Pv i H → NFz pairS P w H d o kvs)
    (hs : ∀ i k v q T H, kvs[i]? = some (k, v) → PairAt H q k → H T = none → Pv i H → g (.ref T) (wipe σ vs) (upd H T (.tup [.ref q, v])) fun σ2 H2 => wipe σ2 vs = wipe σ vs ∧ tt σ2 H2 fun b H3 =>
      if b = true then tk σ2 H3 fun y H4 => tv σ2 H4 fun z H5 => ∃ q k kvs, y = .ref q ∧ NDict pairS P w H5 D kvs ∧ PairAt H5 q k ∧ kvs.length < sizeLine ∧ ∀ H6, (∃ ys, H6 = upd H5 D (dN pairS P w D ys)) → NDict pairS P w H6 D (putK kvs k z) → Pv (i + 1) H6 else Pv (i + 1) H3) (hd : ∀ H, Pv kvs.length H → Qd H) :
    ∃ W : Nat → Nat → Hp → Prop, (∃ m, W 0 m (upd H1 D (dN pairS P w D []))) ∧ ∀ i m H, W i m H →
      ((Itp pairS P w d o kvs).stop i H ∧ Qd H) ∨ ((Itp pairS P w d o kvs).go i H ∧ ∃ Nx : Hp → Prop, (∀ H', Nx H' → ∃ m', m' < m ∧ W (i + 1) m' H') ∧ ∀ x H', (Itp pairS P w d o kvs).yld i H x H' → g x (wipe σ vs) H' fun σ2 H2 => wipe σ2 vs = wipe σ vs ∧ tt σ2 H2 fun b H3 =>
        if b = true then tk σ2 H3 fun y H4 => tv σ2 H4 fun z H5 => ∃ q k kvs, y = .ref q ∧ NDict pairS P w H5 D kvs ∧ PairAt H5 q k ∧ kvs.length < sizeLine ∧ ∀ H6, (∃ ys, H6 = upd H5 D (dN pairS P w D ys)) → NDict pairS P w H6 D (putK kvs k z) → Nx H6 else Nx H3) := by
  refine ⟨fun i m H => m = kvs.length - i ∧ i ≤ kvs.length ∧ Pv i H, ⟨kvs.length, by simp, Nat.zero_le _, h0⟩, ?_⟩
  rintro i m H ⟨rfl, hi, p⟩
  have q := hl i H hi p
  by_cases hlt : i < kvs.length
  · refine .inr ⟨⟨q, hlt⟩, Pv (i + 1), fun H' p' => ⟨kvs.length - (i + 1), by omega, rfl, hlt, p'⟩, fun x H' y => ?_⟩
    obtain ⟨T, k, v, c, e1, e2, e3, e4, e5⟩ := y
    subst e2 e5
    exact hs i k v c T H e1 e3 e4 p
  · have e : i = kvs.length := by omega
    subst e
    exact .inl ⟨⟨q, Nat.le_refl _⟩, hd H p⟩
end
theorem valV_at {k : K2} {v : V} : ∀ {kvs : List (K2 × V)} {i : Nat}, (kvs.map (·.1)).Nodup → kvs[i]? = some (k, v) → valV kvs k = some v
  | [], _, _, h => by simp at h
  | p :: r, 0, _, h => by
    have e : p = (k, v) := Option.some.inj h
    subst e
    exact valV_pos rfl
  | p :: r, i + 1, hn, h => by
    rw [List.map_cons, List.nodup_cons] at hn
    have h2 : r[i]? = some (k, v) := h
    rw [valV_neg]
    · exact valV_at hn.2 h2
    · intro e
      exact hn.1 (List.mem_map.mpr ⟨(k, v), List.mem_of_getElem? h2, e.symm⟩)
section
variable {P : Program} {w : World} {K : PySem.W.Frag} {mg : PySem.Str → Option Value} {base : Heap}
/-! ### is_table -/
def spIsTable (P : Program) (w : World) : Sp := fun vs H Q _ => ∃ d t S x y, vs = [.ref d, .int S, .int (Int.ofNat x), .int (Int.ofNat y)] ∧ TDict P w H d t ∧ t.length ≤ 1000 ∧ (∀ e ∈ t, EntOk S x y e) ∧ x ≤ 1000 ∧ y ≤ 1000 ∧ ∀ H', Same H H' → Q (.bl true) H'
/-- the two lengths of a pair's sides -/
def lens (k : K2) : List V := [.int (k.1.length : Int), .int (k.2.length : Int)]
theorem ok_is_table (Z : Defs K mg) : FnOk P w K mg base CX0 6 Z.is_table.f Z.is_table.fd ["thing", "sounds", "ahead", "behind"] (spIsTable P w) := by
  refine Z.is_table.F.ok sc_is_table (fun vs H Q E h => ?_) (fun cdv A outer s H vs Q E hr h => ?_)
  · obtain ⟨d, t, S, x, y, rfl, _⟩ := h
    rfl
  · obtain ⟨d, t, S, x, y, rfl, ⟨kvs, n, tv⟩, tl, ent, x1, y1, q⟩ := h
    have hkl : kvs.length = t.length := Paired.length tv
    obtain ⟨xs, hH, nt, nd, hz⟩ := id n
    refine ⟨_, (pss_cons (ps_if (PW.pt (pw_or (pt_not (pt_val (pe_callB (call_isdict_n pairS) (by rfl) Z.b_isinstance (by decide +kernel) (pa_cons (pv 0) (pa_cons (pe_bltn (v := .ty "dict") (by rfl) Z.b_dict boot_dict rfl) pa_nil))))) (pw_or1 (pt_cmpR op_gt (pe_callB (call_len_n pairS) (by rfl) Z.b_len PySem.boot_len (pa_cons (pv 0) pa_nil)) (pe_glob (v := .int 4000) rfl Z.c_MOST_ENTRIES.choose_spec ⟨_, rfl⟩) (nomark _)))))
        (pss_one (ps_ret pe_bl))
        pss_nil)
        (pss_cons (ps_lock (ps_for PassesOwn.never rfl (pi_nkeys pairS (pv 0)) (pg_name (i := 4) sc_is_table.nd rfl (Or.inl rfl))
        (pss_cons (ps_if (PW.pt (pw_or (pt_not (pt_val (pe_call (ok_is_side_pair (P := P) (w := w) Z) (hr.mono (by decide)) (by rfl) Z.is_side_pair.g Z.is_side_pair.F.kp Z.is_side_pair.b .nil pass0 (pa_cons (pv 4) (pa_cons (pv 1) (pa_cons (pv 2) (pa_cons (pv 3) pa_nil))))))) (pw_or1 (pt_not (pt_val (pe_call (ok_is_side_pair (P := P) (w := w) Z) (hr.mono (by decide)) (by rfl) Z.is_side_pair.g Z.is_side_pair.F.kp Z.is_side_pair.b .nil pass0 (pa_cons (pe_nget pairS hr.units (pv 0) (pv 4) (fun _ _ => rfl)) (pa_cons (pv 1) (pa_cons (pv 2) (pa_cons (pv 3) pa_nil))))))))))
          (pss_one (ps_ret pe_bl))
          pss_nil)
          (pss_one (ps_if (pt_cmpR (op_neD hr.units) (pe_lc (own := [("side", 5)]) (g := gName 5) (by rfl) sc_is_table.nd (pi_tup (pv 4)) (blkOk_by (own := [("side", 5)]) (N := ["thing", "sounds", "ahead", "behind", "key", "side"]) (sc := defScope s_is_table) (by decide +kernel)) (fun _ _ _ _ _ => (pg_name (i := 5) sc_is_table.nd rfl (Or.inl rfl))) (fun _ _ _ _ _ => pts_nil) (fun _ _ _ _ _ => (pe_callB call_len_row (by rfl) Z.b_len PySem.boot_len (pa_cons (pv 5) pa_nil)))) (pe_lc (own := [("side", 5)]) (g := gName 5) (by rfl) sc_is_table.nd (pi_tup (pe_nget pairS hr.units (pv 0) (pv 4) (fun _ _ => rfl))) (blkOk_by (own := [("side", 5)]) (N := ["thing", "sounds", "ahead", "behind", "key", "side"]) (sc := defScope s_is_table) (by decide +kernel)) (fun _ _ _ _ _ => (pg_name (i := 5) sc_is_table.nd rfl (Or.inl rfl))) (fun _ _ _ _ _ => pts_nil) (fun _ _ _ _ _ => (pe_callB call_len_row (by rfl) Z.b_len PySem.boot_len (pa_cons (pv 5) pa_nil)))) (nomark _))
          (pss_one (ps_ret pe_bl))
          pss_nil)))))
        (pss_one (ps_ret pe_bl)))), ?_⟩
    -- if not isinstance(thing, dict) or len(thing) > MOST_ENTRIES
    refine ⟨_, rfl, d, kvs, rfl, n.rd, true, rfl, iteF ?_⟩
    refine ⟨_, rfl, d, kvs, rfl, n.rd, kvs.length, 4000, rfl, rfl, false, congrArg V.bl (decide_eq_false (by omega)), iteF ?_⟩
    -- for key in thing
    refine ⟨d, _, hH, trivial, fun od => ?_⟩
    generalize hL : upd H d (.frz od (dN pairS P w d xs)) = HL
    have hLd : HL d = some (.frz od (dN pairS P w d xs)) := by rw [← hL]; exact upd_same
    have tupL : Keeps H HL := by
      rw [← hL]
      exact Keeps.upd hH rfl
    have ntL : NT pairS HL kvs xs := NT.keep nt tupL
    have tvL : TVs HL kvs t := TVs.keep tv tupL
    have back : ∀ H', Same HL H' → Same H (upd H' d (dN pairS P w d xs)) := fun H' sm b o e => by
      by_cases hb : b = d
      · subst hb
        rw [upd_same, ← hH]
        exact e
      · rw [upd_ne hb]
        refine sm b o ?_
        rw [← hL, upd_ne hb]
        exact e
    refine ⟨_, rfl, d, od, kvs, rfl, ⟨xs, hLd, ntL⟩, for_nkeys (fun i σ H' => ∃ v4, σ = [some (.ref d), some (.int S), some (.int (Int.ofNat x)), some (.int (Int.ofNat y)), v4, none] ∧ Same HL H') ⟨none, rfl, Same.refl HL⟩ ?_ ?_ ?_⟩
    · rintro i σ H' _ ⟨v4, rfl, sm⟩
      exact ⟨xs, sm _ _ hLd, NT.keep ntL fun b o e _ => sm _ _ e⟩
    · rintro i k v kq σ H' hi hk ⟨v4, rfl, sm⟩
      obtain ⟨va, z, rfl, hz0, ht⟩ := TVs.at_ (TVs.same tvL sm) hi
      have en := ent (k, z) (List.mem_of_getElem? ht)
      have hval : valV kvs k = some (.ref va) := valV_at (by rw [NT.keys nt]; exact nd) hi
      have rdAt : ∀ {H2}, Same H' H2 → NRd pairS P w H2 d kvs := fun {H2} s2 => ⟨xs, .inr ⟨od, s2 _ _ (sm _ _ hLd)⟩, NT.keep (NT.keep ntL fun b o e _ => sm _ _ e) fun b o e _ => s2 _ _ e, nd, hz⟩
      refine ⟨_, rfl, _, rfl, _, rfl, _, rfl, kq, k, S, Int.ofNat x, Int.ofNat y, rfl, hk, en.i1, en.i2, en.p1, en.p2, Int.ofNat_le.mpr en.q1, Int.ofNat_le.mpr en.q2, Int.ofNat_le.mpr x1, Int.ofNat_le.mpr y1, fun H1 s1 => ?_⟩
      refine ⟨true, rfl, iteF ?_⟩
      refine ⟨_, rfl, _, rfl, d, kq, k, kvs, .ref va, rfl, rfl, rdAt s1, hk.same s1, hval, _, rfl, _, rfl, _, rfl, va, z, S, Int.ofNat x, Int.ofNat y, rfl, hz0.same s1, en.i3, en.i4, ?_, ?_, ?_, ?_, Int.ofNat_le.mpr x1, Int.ofNat_le.mpr y1, fun H2 s2 => ?_⟩
      · rw [en.l1]; exact en.p1
      · rw [en.l2]; exact en.p2
      · rw [en.l1]; exact Int.ofNat_le.mpr en.q1
      · rw [en.l2]; exact Int.ofNat_le.mpr en.q2
      refine ⟨true, rfl, iteF ?_⟩
      have s12 := s1.trans s2
      obtain ⟨kb, kc, hk0, hkb, hkc⟩ := hk.same s12
      obtain ⟨zb, zc, hz1, hzb, hzc⟩ := (hz0.same s1).same s2
      -- [len(side) for side in key]
      refine ⟨_, rfl, kq, rfl, ⟨_, SqT.of hk0⟩, fun D1 hD1 => ?_⟩
      refine lc_tup (K := K) (a := kq) (xs := [.ref kb, .ref kc]) (fun i H3 => Same H2 H3 ∧ H3 D1 = some (.lst ((lens k).take i))) ⟨same_new hD1, upd_same⟩ (fun i H3 _ h3 => SqT.of (h3.1 _ _ hk0)) ?_ ?_
      · rintro i x0 H3 hx ⟨s3, hd3⟩
        match i, hx with
        | 0, hx =>
          cases hx
          exact ⟨rfl, _, rfl, kb, k.1, rfl, hkb.same s3, _, hd3, by show 0 < sizeLine; decide, Same.upd_fresh s3 hD1, upd_same⟩
        | 1, hx =>
          cases hx
          exact ⟨rfl, _, rfl, kc, k.2, rfl, hkc.same s3, _, hd3, by show 1 < sizeLine; decide, Same.upd_fresh s3 hD1, upd_same⟩
        | j + 2, hx => cases hx
      rintro H3 ⟨s3, hd3⟩
      have s13 := s12.trans s3
      -- [len(side) for side in thing[key]]
      refine ⟨_, rfl, _, rfl, d, kq, k, kvs, .ref va, rfl, rfl, rdAt s13, hk.same s13, hval, va, rfl, ⟨_, SqT.of (s3 _ _ hz1)⟩, fun D2 hD2 => ?_⟩
      have ne12 : D1 ≠ D2 := ne_of_none hd3 hD2
      refine lc_tup (K := K) (a := va) (xs := [.ref zb, .ref zc]) (fun i H4 => Same H3 H4 ∧ H4 D2 = some (.lst ((lens z).take i))) ⟨same_new hD2, upd_same⟩ (fun i H4 _ h4 => SqT.of (h4.1 _ _ (s3 _ _ hz1))) ?_ ?_
      · rintro i x0 H4 hx ⟨s4, hd4⟩
        match i, hx with
        | 0, hx =>
          cases hx
          exact ⟨rfl, _, rfl, zb, z.1, rfl, (hzb.same s3).same s4, _, hd4, by show 0 < sizeLine; decide, Same.upd_fresh s4 hD2, upd_same⟩
        | 1, hx =>
          cases hx
          exact ⟨rfl, _, rfl, zc, z.2, rfl, (hzc.same s3).same s4, _, hd4, by show 1 < sizeLine; decide, Same.upd_fresh s4 hD2, upd_same⟩
        | j + 2, hx => cases hx
      rintro H4 ⟨s4, hd4⟩
      have d1 : Dp K H4 (.ref D1) (.list [.int (k.1.length : Int), .int (k.2.length : Int)]) := .lst (SqL.of (s4 _ _ hd3)) (.cons (.int _) (.cons (.int _) .nil))
      have d2 : Dp K H4 (.ref D2) (.list [.int (k.1.length : Int), .int (k.2.length : Int)]) := by
        refine .lst (SqL.of hd4) ?_
        show DpAll K H4 [.int (z.1.length : Int), .int (z.2.length : Int)] _
        have e1 : z.1.length = k.1.length := en.l1
        have e2 : z.2.length = k.2.length := en.l2
        rw [e1, e2]
        exact .cons (.int _) (.cons (.int _) .nil)
      refine ⟨_, _, d1, d2, by simp [SeqAt.shaped, PyData.canLay0, PyData.canLayAll0, PyData.depth, PyData.depthAll], by simp [SeqAt.shaped, PyData.canLay0, PyData.canLayAll0, PyData.depth, PyData.depthAll], false, ?_, iteF ?_⟩
      · simp [PyData.eqv, PyData.eqvAll]
      · exact ⟨_, rfl, sm.trans (s13.trans s4)⟩
    · rintro σ H' ⟨v4, rfl, sm⟩
      exact ⟨sm _ _ hLd, q _ (back H' sm)⟩
end
end K98
/-! Books made; summaries. -/
namespace K98
open PySem PySem.Spec PyProof.Rows L2
theorem look_app {t : Tbl} {k v : K2} (h : k ∉ t.map (·.1)) : putT t k v = t ++ [(k, v)] := by
  unfold putT
  rw [if_neg]
  intro q
  obtain ⟨e, he, hk⟩ := List.any_eq_true.mp q
  exact h (List.mem_map.mpr ⟨e, he, of_decide_eq_true hk⟩)
theorem changing_sub {t : Tbl} {k : K2} (h : k ∈ (changing t).map (·.1)) : k ∈ t.map (·.1) := by
  obtain ⟨e, he, q⟩ := List.mem_map.mp h
  exact List.mem_map.mpr ⟨e, changing_mem he, q⟩
theorem take_key {t : Tbl} {i : Nat} {k v : K2} (hn : (t.map (·.1)).Nodup) (h : t[i]? = some (k, v)) : k ∉ (t.take i).map (·.1) := by
  intro q
  obtain ⟨e, he, hk⟩ := List.mem_map.mp q
  obtain ⟨j, hj⟩ := List.mem_iff_getElem?.mp he
  rw [List.getElem?_take] at hj
  split at hj
  · rename_i hji
    have h1 : (t.map (·.1))[j]? = some k := by rw [List.getElem?_map, hj]; exact congrArg some hk
    have h2 : (t.map (·.1))[i]? = some k := by rw [List.getElem?_map, h]; rfl
    obtain ⟨l1, e1⟩ := List.getElem?_eq_some_iff.mp h1
    obtain ⟨l2, e2⟩ := List.getElem?_eq_some_iff.mp h2
    have := (List.getElem_inj hn).mp (e1.trans e2.symm)
    omega
  · cases hj
theorem changing_take {t : Tbl} {i : Nat} {e : K2 × K2} (h : t[i]? = some e) : changing (t.take (i + 1)) = if e.1 = e.2 then changing (t.take i) else changing (t.take i) ++ [e] := by
  unfold changing
  rw [List.take_add_one, h, List.filter_append]
  by_cases c : e.1 = e.2
  · rw [if_pos c]
    simp [c]
  · rw [if_neg c]
    simp [c]
section
variable {P : Program} {w : World} {K : PySem.W.Frag} {mg : PySem.Str → Option Value} {base : Heap}
/-! ### Book.keep, Book.__init__, Book.reach -/
def spKeep (P : Program) (w : World) (C : Addr) : Sp := fun vs H Q _ => ∃ p dx d t S a b, vs = [.ref p, .int S, .int a, .int b, .ref d] ∧ H p = some (.ins C dx []) ∧ TDict P w H d t ∧ t.length ≤ 1000 ∧
  ∀ H', SameBut p H H' → (∃ dx' d' t', H' p = some (.ins C dx' (F_Book (.int S) (.int a) (.int b) (.ref d'))) ∧ TDict P w H' d' t' ∧ ∀ k, look t' k = look t k) → Q .non H'
theorem ok_Book_keep (Z : Defs K mg) : FnOk P w K mg base CX0 1 Z.Book_keep.f Z.Book_keep.fd ["self", "sounds", "ahead", "behind", "table"] (spKeep P w Z.CBook) := by
  refine Z.Book_keep.F.ok sc_Book_keep (fun vs H Q E h => ?_) (fun cdv A outer s H vs Q E hr h => ?_)
  · obtain ⟨p, dx, d, t, S, a, b, rfl, _⟩ := h
    rfl
  · obtain ⟨p, dx, d, t, S, a, b, rfl, hp, ⟨kvs, n, tv⟩, tl, q⟩ := h
    have hkl : kvs.length = t.length := Paired.length tv
    obtain ⟨xs, hH, nt, nd, hz⟩ := id n
    have npd : d ≠ p := ne_of hH hp (fun z => nomatch z)
    have hnodup : (t.map (·.1)).Nodup := TDict.nodup (P := P) (w := w) (H := H) (d := d) ⟨kvs, n, tv⟩
    refine ⟨_, (pss_cons (ps_fld (pv 0) (pv 1) rfl)
        (pss_cons (ps_fld (pv 0) (pv 2) rfl)
        (pss_cons (ps_fld (pv 0) (pv 3) rfl)
        (pss_one (ps_fld (pv 0) (pe_lock (pe_ndc pairS hr.units (own := [("key", 5), ("told", 6)]) (g := gTup K 2 (gCons (gName 5) (gCons (gName 6) gNil))) (tt := tTest (tOp (rNeD K) (tVar 5) (tVar 6))) (by rfl) sc_Book_keep.nd (pi_npairs pairS (pv 4)) (blkOk_by (own := [("key", 5), ("told", 6)]) (N := ["self", "sounds", "ahead", "behind", "table", "key", "told"]) (sc := defScope s_Book_keep) (by decide +kernel)) (fun _ _ _ _ _ => (pg_tup rfl (pgs_cons (pg_name (i := 5) sc_Book_keep.nd rfl (Or.inl rfl)) (pgs_cons (pg_name (i := 6) sc_Book_keep.nd rfl (Or.inl rfl)) pgs_nil)))) (fun _ _ _ _ _ => (pts_one (pt_cmpR (op_neD hr.units) (pv 5) (pv 6) (nomark _)))) (fun _ _ _ _ _ => (pv 5)) (fun _ _ _ _ _ => (pv 6)))) rfl))))), ?_⟩
    refine ⟨_, rfl, _, rfl, p, Z.CBook, dx, [], rfl, hp, Z.Book.cl, Z.Book.a_kept_sounds, (by show 0 < 1000; decide), ?_⟩
    refine ⟨_, rfl, _, rfl, p, Z.CBook, dx, _, rfl, upd_same, Z.Book.cl, Z.Book.a_kept_ahead, (by show 1 < 1000; decide), ?_⟩
    refine ⟨_, rfl, _, rfl, p, Z.CBook, dx, _, rfl, upd_same, Z.Book.cl, Z.Book.a_kept_behind, (by show 2 < 1000; decide), ?_⟩
    rw [upd_upd, upd_upd]
    generalize hH3 : upd H p (.ins Z.CBook dx (putF "kept_behind" (.int b) (putF "kept_ahead" (.int a) (putF "kept_sounds" (.int S) [])))) = H3
    have h3p : H3 p = some (.ins Z.CBook dx (putF "kept_behind" (.int b) (putF "kept_ahead" (.int a) (putF "kept_sounds" (.int S) [])))) := by rw [← hH3]; exact upd_same
    have sb3 : SameBut p H H3 := by rw [← hH3]; exact SameBut.upd
    have h3d : H3 d = some (dN pairS P w d xs) := sb3 _ _ hH npd
    have tup3 : Keeps H H3 := by
      rw [← hH3]
      exact Keeps.upd hp rfl
    -- {key: told for key, told in table.items() if key != told}
    refine ⟨d, _, h3d, trivial, fun od => ?_⟩
    generalize hL : upd H3 d (.frz od (dN pairS P w d xs)) = HL
    have hLd : HL d = some (.frz od (dN pairS P w d xs)) := by rw [← hL]; exact upd_same
    have tupL : Keeps H3 HL := by
      rw [← hL]
      exact Keeps.upd h3d rfl
    have ntL : NT pairS HL kvs xs := NT.keep (NT.keep nt tup3) tupL
    have tvL : TVs HL kvs t := TVs.keep (TVs.keep tv tup3) tupL
    refine ⟨_, rfl, d, od, kvs, rfl, ⟨xs, hLd, ntL⟩, fun D hD => ?_⟩
    refine ndc_pairs (fun i H' => Same HL H' ∧ ∃ kv', NDict pairS P w H' D kv' ∧ TVs H' kv' (changing (t.take i))) ⟨same_new hD, [], NDict.new, .nil⟩ ?_ ?_ ?_
    · rintro i H' _ ⟨sm, _⟩
      exact ⟨xs, sm _ _ hLd, NT.keep ntL fun b o e _ => sm _ _ e⟩
    · rintro i k v kq T H' hi hk hT ⟨sm, kv', nD, tvD⟩
      obtain ⟨va, z, rfl, hz0, ht⟩ := TVs.at_ (TVs.same tvL sm) hi
      have sT : Same H' (upd H' T (.tup [.ref kq, .ref va])) := same_new hT
      refine ⟨T, _, rfl, SqT.of upd_same, rfl, _, _, rfl, _, _, rfl, rfl, rfl, ?_⟩
      refine ⟨_, rfl, _, rfl, pD k, pD z, dp_pair (hk.same sT), dp_pair (hz0.same sT), pD_shaped _, pD_shaped _, _, rfl, ?_⟩
      rw [pD_eqv]
      have nD' := nD.same sT
      have tvD' := TVs.same tvD sT
      have smT := sm.trans sT
      refine ite2 (fun c => ?_) (fun c => ?_)
      · have ck : ¬ k = z := by simpa using c
        have hkl' : kv'.length ≤ 1000 := by
          have e1 : kv'.length = (changing (t.take i)).length := Paired.length tvD
          have e2 : (changing (t.take i)).length ≤ (t.take i).length := List.length_filter_le _ _
          rw [List.length_take] at e2
          omega
        refine ⟨_, rfl, _, rfl, kq, k, kv', rfl, nD', hk.same sT, small1000 hkl', fun H6 hys n6 => ?_⟩
        obtain ⟨ys, rfl⟩ := hys
        have keepT : Keeps (upd H' T (.tup [.ref kq, .ref va])) (upd (upd H' T (.tup [.ref kq, .ref va])) D (dN pairS P w D ys)) := by
          obtain ⟨xsD, hDD, _⟩ := nD'
          exact Keeps.upd hDD rfl
        refine ⟨fun c o e => ?_, putK kv' k (.ref va), n6, ?_⟩
        · rw [upd_ne (ne_of_none e hD)]
          exact smT c o e
        · rw [changing_take ht, if_neg ck]
          have := TVs.put (TVs.keep tvD' keepT) k z ((hz0.same sT).keep keepT)
          rw [look_app (fun m => take_key hnodup ht (changing_sub m))] at this
          exact this
      · have ck : k = z := by simpa using c
        refine ⟨smT, kv', nD', ?_⟩
        rw [changing_take ht, if_pos ck]
        exact tvD'
    · rintro H' ⟨sm, kv', nD, tvD⟩
      have etl : t.take kvs.length = t := by rw [hkl, List.take_length]
      rw [etl] at tvD
      refine ⟨sm _ _ hLd, ?_⟩
      have neD : D ≠ d := (ne_of_none hLd hD).symm
      have hpL : HL p = some (.ins Z.CBook dx (putF "kept_behind" (.int b) (putF "kept_ahead" (.int a) (putF "kept_sounds" (.int S) [])))) := by
        rw [← hL, upd_ne npd.symm]
        exact h3p
      have hp' : (upd H' d (dN pairS P w d xs)) p = some (.ins Z.CBook dx (putF "kept_behind" (.int b) (putF "kept_ahead" (.int a) (putF "kept_sounds" (.int S) [])))) := by
        rw [upd_ne npd.symm]
        exact sm _ _ hpL
      refine ⟨_, rfl, p, Z.CBook, dx, _, rfl, hp', Z.Book.cl, Z.Book.a_kept_table, (by show 3 < 1000; decide), ?_⟩
      have keepU : Keeps H' (upd (upd H' d (dN pairS P w d xs)) p (.ins Z.CBook dx (F_Book (.int S) (.int a) (.int b) (.ref D)))) := fun c o e ht => by
        have h1 := Keeps.upd (u := dN pairS P w d xs) (sm _ _ hLd) rfl c o e ht
        exact Keeps.upd hp' rfl c o h1 ht
      have nep : D ≠ p := (ne_of_none hpL hD).symm
      refine q _ (fun c o e hc => ?_) ⟨dx, D, changing t, upd_same, ⟨kv', nD.keep ?_ keepU, TVs.keep tvD keepU⟩, look_changing hnodup⟩
      · rw [upd_ne hc]
        by_cases hb : c = d
        · subst hb
          rw [upd_same, ← hH]
          exact e
        · rw [upd_ne hb]
          refine sm c o ?_
          rw [← hL, upd_ne hb]
          exact sb3 c o e hc
      · rw [upd_ne nep, upd_ne neD]
def spBookInit (P : Program) (w : World) (C : Addr) : Sp := fun vs H Q _ => ∃ p dx d t S a b, vs = [.ref p, .int (Int.ofNat S), .int (Int.ofNat a), .int (Int.ofNat b), .ref d] ∧ H p = some (.ins C dx []) ∧ TDict P w H d t ∧ t.length ≤ 1000 ∧ (∀ e ∈ t, EntOk (S : Int) a b e) ∧ 1 ≤ S ∧ S ≤ 8 ∧ 1 ≤ a ∧ a ≤ 4 ∧ 1 ≤ b ∧ b ≤ 4 ∧
  ∀ H', SameBut p H H' → BookAt P w C H' p S a b (look t) → Q .non H'
theorem ok_Book_init (Z : Defs K mg) : FnOk P w K mg base CX0 7 Z.Book_init.f Z.Book_init.fd ["self", "sounds", "ahead", "behind", "table"] (spBookInit P w Z.CBook) := by
  refine Z.Book_init.F.ok sc_Book_init (fun vs H Q E h => ?_) (fun cdv A outer s H vs Q E hr h => ?_)
  · obtain ⟨p, dx, d, t, S, a, b, rfl, _⟩ := h
    rfl
  · obtain ⟨p, dx, d, t, S, a, b, rfl, hp, td, tl, ent, s1, s8, a1, a4, b1, b4, q⟩ := h
    refine ⟨_, (pss_cons (ps_expr (pe_call (ok_check_sizes (P := P) (w := w) Z) (hr.mono (by decide)) (by rfl) Z.check_sizes.g Z.check_sizes.F.kp Z.check_sizes.b .nil pass0 (pa_cons (pv 1) (pa_cons (pv 2) (pa_cons (pv 3) pa_nil)))))
        (pss_cons (ps_if (pt_not (pt_val (pe_call (ok_is_table (P := P) (w := w) Z) (hr.mono (by decide)) (by rfl) Z.is_table.g Z.is_table.F.kp Z.is_table.b .nil pass0 (pa_cons (pv 4) (pa_cons (pv 1) (pa_cons (pv 2) (pa_cons (pv 3) pa_nil)))))))
        (pss_one ps_never)
        pss_nil)
        (pss_one (ps_expr (pe_meth (pv 0) Z.Book.cl Z.Book_keep.m (ok_Book_keep (P := P) (w := w) Z) (hr.mono (by decide)) Z.Book_keep.b .nil pass0 (pa_cons (pv 1) (pa_cons (pv 2) (pa_cons (pv 3) (pa_cons (pv 4) pa_nil))))))))), ?_⟩
    refine ⟨_, rfl, _, rfl, _, rfl, Int.ofNat S, Int.ofNat a, Int.ofNat b, rfl, Int.ofNat_le.mpr s1, Int.ofNat_le.mpr s8, Int.ofNat_le.mpr a1, Int.ofNat_le.mpr a4, Int.ofNat_le.mpr b1, Int.ofNat_le.mpr b4, ?_⟩
    refine ⟨_, rfl, _, rfl, _, rfl, _, rfl, d, t, Int.ofNat S, a, b, rfl, td, tl, ent, by omega, by omega, fun H1 sm => ?_⟩
    refine ⟨true, rfl, iteF ?_⟩
    refine ⟨_, rfl, p, dx, _, rfl, sm _ _ hp, rfl, _, rfl, _, rfl, _, rfl, _, rfl, p, dx, d, t, Int.ofNat S, Int.ofNat a, Int.ofNat b, rfl, sm _ _ hp, td.same sm, tl, fun H2 sb hb => ?_⟩
    obtain ⟨dx', d', t', h1, h2, h3⟩ := hb
    exact q H2 (Same.but sm sb) ⟨⟨dx', d', t', h1, h2, h3⟩, look_ok ent, s8, a1, a4, b1, b4⟩
def spReach (P : Program) (w : World) (C : Addr) : Sp := fun vs H Q _ => ∃ p S a b T, vs = [.ref p] ∧ BookAt P w C H p S a b T ∧ Q (.int (a + b : Nat)) H
theorem ok_Book_reach (Z : Defs K mg) : FnOk P w K mg base CX0 1 Z.Book_reach.f Z.Book_reach.fd ["self"] (spReach P w Z.CBook) := by
  refine Z.Book_reach.F.ok sc_Book_reach (fun vs H Q E h => ?_) (fun cdv A outer s H vs Q E hr h => ?_)
  · obtain ⟨p, S, a, b, T, rfl, _⟩ := h
    rfl
  · obtain ⟨p, S, a, b, T, rfl, B, q⟩ := h
    obtain ⟨dx, d, t, h1, hd, hT⟩ := B.ob
    refine ⟨_, (pss_one (ps_ret (pe_op op_add (pe_fld (pv 0) rfl) (pe_fld (pv 0) rfl)))), ?_⟩
    exact ⟨_, rfl, p, Z.CBook, dx, _, _, rfl, h1, Z.Book.cl, Z.Book.a_kept_ahead, F_Book_kept_ahead _ _ _ _, _, rfl, p, Z.CBook, dx, _, _, rfl, h1, Z.Book.cl, Z.Book.a_kept_behind, F_Book_kept_behind _ _ _ _, (a : Int), (b : Int), rfl, rfl, by
      have : ((a + b : Nat) : Int) = (a : Int) + (b : Int) := by omega
      rw [this] at q
      exact q⟩
/-! ### summed_up, standing_for, ends_of -/
def spSum (P : Program) (w : World) (C : Addr) : Sp := fun vs H Q _ => ∃ p x r S a b T, vs = [.ref p, .ref x] ∧ BookAt P w C H p S a b T ∧ RowAt H x r ∧ ∀ q H', Same H H' → PairAt H' q (summ a b r) → Q (.ref q) H'
theorem ok_summed_up (Z : Defs K mg) : FnOk P w K mg base CX0 2 Z.summed_up.f Z.summed_up.fd ["book", "row"] (spSum P w Z.CBook) := by
  refine Z.summed_up.F.ok sc_summed_up (fun vs H Q E h => ?_) (fun cdv A outer s H vs Q E hr h => ?_)
  · obtain ⟨p, x, r, S, a, b, T, rfl, _⟩ := h
    rfl
  · obtain ⟨p, x, r, S, a, b, T, rfl, B, hx, q⟩ := h
    obtain ⟨dx, d, t, h1, hd, hT⟩ := B.ob
    refine ⟨_, (pss_cons (ps_if (pt_cmpR op_lt (pe_callB call_len_row (by rfl) Z.b_len PySem.boot_len (pa_cons (pv 1) pa_nil)) (pe_meth0 (pv 0) Z.Book.cl Z.Book_reach.m (ok_Book_reach (P := P) (w := w) Z) (hr.mono (by decide)) Z.Book_reach.b .nil pass0) (nomark _))
        (pss_one (ps_ret (pe_pairR (pv 1) pe_nilR)))
        pss_nil)
        (pss_one (ps_ret (pe_pairR (pe_slice sl_row (pv 1) po_none (po_some (pe_fld (pv 0) rfl))) (pe_slice sl_row (pv 1) (po_some (pe_un un_neg (pe_fld (pv 0) rfl))) po_none))))), ?_⟩
    refine ⟨_, rfl, x, r, rfl, hx, _, rfl, p, dx, _, rfl, h1, F_Book_no_reach _ _ _ _, p, S, a, b, T, rfl, B, (r.length : Int), ((a + b : Nat) : Int), rfl, rfl, _, rfl, ?_⟩
    refine ite2 (fun c => ?_) (fun c => ?_)
    · have c1 : r.length < a + b := by
        have := of_decide_eq_true c
        omega
      refine ⟨_, rfl, fun e H1 s1 he => ⟨x, e, r, [], rfl, hx.same s1, he, fun q0 H2 s2 hq => ?_⟩⟩
      refine q q0 H2 (s1.trans s2) ?_
      unfold summ
      rw [if_pos c1]
      exact hq
    · have c1 : ¬ r.length < a + b := fun z => c (decide_eq_true (by omega))
      refine ⟨_, rfl, _, rfl, p, Z.CBook, dx, _, _, rfl, h1, Z.Book.cl, Z.Book.a_kept_behind, F_Book_kept_behind _ _ _ _, (b : Int), rfl, x, r, rfl, hx, fun u H1 s1 e1 => ?_⟩
      rw [cutR_upto] at e1
      refine ⟨_, rfl, _, rfl, p, Z.CBook, dx, _, _, rfl, s1 _ _ h1, Z.Book.cl, Z.Book.a_kept_ahead, F_Book_kept_ahead _ _ _ _, (a : Int), rfl, _, rfl, x, r, rfl, hx.same s1, fun v H2 s2 e2 => ?_⟩
      rw [cutR_last _ _ B.a1] at e2
      refine ⟨u, v, _, _, rfl, e1.same s2, e2, fun q0 H3 s3 hq => ?_⟩
      refine q q0 H3 ((s1.trans s2).trans s3) ?_
      unfold summ
      rw [if_neg c1]
      exact hq
def spStand : Sp := fun vs H Q _ => ∃ p k, vs = [.ref p] ∧ PairAt H p k ∧ (Prod.fst k).length + (Prod.snd k).length ≤ 20000 ∧ ∀ q H', Same H H' → RowAt H' q (stand k) → Q (.ref q) H'
theorem ok_standing_for (Z : Defs K mg) : FnOk P w K mg base CX0 1 Z.standing_for.f Z.standing_for.fd ["found"] spStand := by
  refine Z.standing_for.F.ok sc_standing_for (fun vs H Q E h => ?_) (fun cdv A outer s H vs Q E hr h => ?_)
  · obtain ⟨p, k, rfl, _⟩ := h
    rfl
  · obtain ⟨p, k, rfl, ⟨b, c, h0, hb, hc⟩, hl, q⟩ := h
    refine ⟨_, (pss_one (ps_ret (pe_op op_catR (pe_ix ix_pair (pv 0) pe_int (fun _ _ => rfl)) (pe_ix ix_pair (pv 0) pe_int (fun _ _ => rfl))))), ?_⟩
    refine ⟨_, rfl, p, k, b, c, rfl, h0, hb, hc, .inl ⟨rfl, ?_⟩⟩
    refine ⟨_, rfl, p, k, b, c, rfl, h0, hb, hc, .inr ⟨rfl, ?_⟩⟩
    exact ⟨b, c, k.1, k.2, rfl, rfl, hb, hc, line20000 hl, fun q0 H1 s1 e1 => q q0 H1 s1 e1⟩
def spEndsOf (P : Program) (w : World) (C : Addr) : Sp := fun vs H Q _ => ∃ p x r S a b T, vs = [.ref p, .ref x] ∧ BookAt P w C H p S a b T ∧ RowAt H x r ∧ ∀ q H', Same H H' → PairAt H' q (ends a b r) → Q (.ref q) H'
theorem ok_ends_of (Z : Defs K mg) : FnOk P w K mg base CX0 1 Z.ends_of.f Z.ends_of.fd ["book", "row"] (spEndsOf P w Z.CBook) := by
  refine Z.ends_of.F.ok sc_ends_of (fun vs H Q E h => ?_) (fun cdv A outer s H vs Q E hr h => ?_)
  · obtain ⟨p, x, r, S, a, b, T, rfl, _⟩ := h
    rfl
  · obtain ⟨p, x, r, S, a, b, T, rfl, B, hx, q⟩ := h
    obtain ⟨dx, d, t, h1, hd, hT⟩ := B.ob
    refine ⟨_, (pss_one (ps_ret (pe_pairR (pe_slice sl_row (pv 1) po_none (po_some (pe_fld (pv 0) rfl))) (pe_slice sl_row (pv 1) (po_some (pe_un un_neg (pe_fld (pv 0) rfl))) po_none)))), ?_⟩
    refine ⟨_, rfl, _, rfl, p, Z.CBook, dx, _, _, rfl, h1, Z.Book.cl, Z.Book.a_kept_behind, F_Book_kept_behind _ _ _ _, (b : Int), rfl, x, r, rfl, hx, fun u H1 s1 e1 => ?_⟩
    rw [cutR_upto] at e1
    refine ⟨_, rfl, _, rfl, p, Z.CBook, dx, _, _, rfl, s1 _ _ h1, Z.Book.cl, Z.Book.a_kept_ahead, F_Book_kept_ahead _ _ _ _, (a : Int), rfl, _, rfl, x, r, rfl, hx.same s1, fun v H2 s2 e2 => ?_⟩
    rw [cutR_last _ _ B.a1] at e2
    exact ⟨u, v, _, _, rfl, e1.same s2, e2, fun q0 H3 s3 hq => q q0 H3 ((s1.trans s2).trans s3) hq⟩
end
end K98
/-! A finished chain: index, tail, settled, full, sound. -/
namespace K98
open PySem PySem.Spec PyProof.Rows L2
/-- a finished chain at c: the tails come round from the i-th on, after p words more -/
structure ChainAt (P : Program) (w : World) (CB CC : Addr) (H : Hp) (c bk x : Addr) (S a b : Nat) (T : K2 → K2) (r : Row) (i p : Nat) : Prop where
  W : WordAt P w CB H bk x S a b T r
  ob : ∃ dx td fd sd as bs, H c = some (.ins CC dx (F_Chain (.ref bk) (.ref x) (.ref td) (.ref fd) (.ref sd) (.int i) (.int p))) ∧ H td = some (.lst (List.map V.ref as)) ∧ H fd = some (.lst (List.map V.ref bs)) ∧ as.length = i + p ∧ bs.length = i + p ∧
    (∀ (j : Nat) (t : Addr), as[j]? = some t → RowAt H t (tl T a b r j)) ∧ ∀ (j : Nat) (t : Addr), bs[j]? = some t → RowAt H t (fx T a b r j)
  p0 : 0 < p
  few : i + p ≤ 7000
  per : tl T a b r (i + p) = tl T a b r i
theorem ChainAt.same {P : Program} {w : World} {CB CC : Addr} {H H' : Hp} {c bk x : Addr} {S a b : Nat} {T : K2 → K2} {r : Row} {i p : Nat} (h : ChainAt P w CB CC H c bk x S a b T r i p) (s : Same H H') : ChainAt P w CB CC H' c bk x S a b T r i p := by
  obtain ⟨W, ⟨dx, td, fd, sd, as, bs, h1, h2, h3, h4, h5, h6, h7⟩, p0, few, per⟩ := h
  exact ⟨W.same s, ⟨dx, td, fd, sd, as, bs, s _ _ h1, s _ _ h2, s _ _ h3, h4, h5, fun j t e => (h6 j t e).same s, fun j t e => (h7 j t e).same s⟩, p0, few, per⟩
theorem atI_map {as : List Addr} {j : Nat} {t : Addr} (h : as[j]? = some t) : atI (as.map V.ref) (j : Int) = some (.ref t) := by
  refine atI_nat ?_
  rw [List.getElem?_map, h]
  rfl
section
variable {P : Program} {w : World} {K : PySem.W.Frag} {mg : PySem.Str → Option Value} {base : Heap}
/-! ### index, tail -/
def spIndex (P : Program) (w : World) (CB CC : Addr) : Sp := fun vs H Q _ => ∃ c n bk x S a b T r i p, vs = [.ref c, .int (Int.ofNat n)] ∧ ChainAt P w CB CC H c bk x S a b T r i p ∧ Q (.int (ixOf i p n : Nat)) H
theorem ok_Chain_index (Z : Defs K mg) : FnOk P w K mg base CX0 1 Z.Chain_index.f Z.Chain_index.fd ["self", "number"] (spIndex P w Z.CBook Z.CChain) := by
  refine Z.Chain_index.F.ok sc_Chain_index (fun vs H Q E h => ?_) (fun cdv A outer s H vs Q E hr h => ?_)
  · obtain ⟨c, n, bk, x, S, a, b, T, r, i, p, rfl, _⟩ := h
    rfl
  · obtain ⟨c, n, bk, x, S, a, b, T, r, i, p, rfl, C, q⟩ := h
    obtain ⟨dx, td, fd, sd, as, bs, h1, h2, h3, h4, h5, h6, h7⟩ := C.ob
    refine ⟨_, (pss_cons (ps_if (pt_cmpR op_lt (pv 1) (pe_callB call_len_seq (by rfl) Z.b_len PySem.boot_len (pa_cons (pe_fld (pv 0) rfl) pa_nil)) (nomark _))
        (pss_one (ps_ret (pv 1)))
        pss_nil)
        (pss_one (ps_ret (pe_op op_add (pe_fld (pv 0) rfl) (pe_op op_mod (pe_op op_sub (pv 1) (pe_fld (pv 0) rfl)) (pe_fld (pv 0) rfl)))))), ?_⟩
    refine ⟨_, rfl, _, rfl, c, Z.CChain, dx, _, _, rfl, h1, Z.Chain.cl, Z.Chain.a_tails, F_Chain_tails _ _ _ _ _ _ _, td, _, rfl, .inl (SqL.of h2), (n : Int), ((List.map V.ref as).length : Int), rfl, rfl, _, rfl, ?_⟩
    rw [List.length_map, h4]
    refine ite2 (fun e => ?_) (fun e => ?_)
    · have e1 : n < i + p := by
        have := of_decide_eq_true e
        omega
      refine ⟨_, rfl, ?_⟩
      unfold ixOf at q
      rw [if_pos e1] at q
      exact q
    · have e1 : ¬ n < i + p := fun z => e (decide_eq_true (by omega))
      refine ⟨_, rfl, c, Z.CChain, dx, _, _, rfl, h1, Z.Chain.cl, Z.Chain.a_before, F_Chain_before _ _ _ _ _ _ _, _, rfl, _, rfl, c, Z.CChain, dx, _, _, rfl, h1, Z.Chain.cl, Z.Chain.a_before, F_Chain_before _ _ _ _ _ _ _, (n : Int), (i : Int), rfl, rfl, ?_⟩
      refine ⟨_, rfl, c, Z.CChain, dx, _, _, rfl, h1, Z.Chain.cl, Z.Chain.a_ring, F_Chain_ring _ _ _ _ _ _ _, (n : Int) - (i : Int), (p : Int), rfl, rfl, (by have := C.p0; omega), (i : Int), ((n : Int) - (i : Int)) % (p : Int), rfl, rfl, ?_⟩
      unfold ixOf at q
      rw [if_neg e1] at q
      have e2 : ((i + (n - i) % p : Nat) : Int) = (i : Int) + ((n : Int) - (i : Int)) % (p : Int) := by
        rw [Int.natCast_add, Int.natCast_emod, Int.natCast_sub (by omega)]
      rw [e2] at q
      exact q
def spTail (P : Program) (w : World) (CB CC : Addr) : Sp := fun vs H Q _ => ∃ c n bk x S a b T r i p, vs = [.ref c, .int (Int.ofNat n)] ∧ ChainAt P w CB CC H c bk x S a b T r i p ∧ ∀ t, RowAt H t (tl T a b r n) → Q (.ref t) H
theorem ok_Chain_tail (Z : Defs K mg) : FnOk P w K mg base CX0 2 Z.Chain_tail.f Z.Chain_tail.fd ["self", "number"] (spTail P w Z.CBook Z.CChain) := by
  refine Z.Chain_tail.F.ok sc_Chain_tail (fun vs H Q E h => ?_) (fun cdv A outer s H vs Q E hr h => ?_)
  · obtain ⟨c, n, bk, x, S, a, b, T, r, i, p, rfl, _⟩ := h
    rfl
  · obtain ⟨c, n, bk, x, S, a, b, T, r, i, p, rfl, C, q⟩ := h
    obtain ⟨dx, td, fd, sd, as, bs, h1, h2, h3, h4, h5, h6, h7⟩ := C.ob
    refine ⟨_, (pss_one (ps_ret (pe_ix ix_list (pe_fld (pv 0) rfl) (pe_meth (pv 0) Z.Chain.cl Z.Chain_index.m (ok_Chain_index (P := P) (w := w) Z) (hr.mono (by decide)) Z.Chain_index.b .nil pass0 (pa_cons (pv 1) pa_nil)) (fun _ _ => rfl)))), ?_⟩
    have hlt : ixOf i p n < as.length := by rw [h4]; exact ixOf_lt C.p0
    have ht : as[ixOf i p n]? = some as[ixOf i p n] := List.getElem?_eq_getElem hlt
    have hrow := h6 _ _ ht
    rw [tl_ix C.per] at hrow
    refine ⟨_, rfl, c, Z.CChain, dx, _, _, rfl, h1, Z.Chain.cl, Z.Chain.a_tails, F_Chain_tails _ _ _ _ _ _ _, ?_⟩
    refine ⟨_, rfl, c, dx, _, rfl, h1, F_Chain_no_index _ _ _ _ _ _ _, _, rfl, c, n, bk, x, S, a, b, T, r, i, p, rfl, C, ?_⟩
    exact ⟨td, _, _, _, rfl, rfl, SqL.of h2, atI_map ht, q _ hrow⟩
/-! ### settled -/
def spSettled (P : Program) (w : World) (CB CC : Addr) : Sp := fun vs H Q _ => ∃ c n bk x S a b T r i p, vs = [.ref c, .int (Int.ofNat n)] ∧ ChainAt P w CB CC H c bk x S a b T r i p ∧ ∀ t H', Same H H' → RowAt H' t (fx T a b r n) → Q (.ref t) H'
theorem ok_Chain_settled (Z : Defs K mg) : FnOk P w K mg base CX0 4 Z.Chain_settled.f Z.Chain_settled.fd ["self", "number"] (spSettled P w Z.CBook Z.CChain) := by
  refine Z.Chain_settled.F.ok sc_Chain_settled (fun vs H Q E h => ?_) (fun cdv A outer s H vs Q E hr h => ?_)
  · obtain ⟨c, n, bk, x, S, a, b, T, r, i, p, rfl, _⟩ := h
    rfl
  · obtain ⟨c, n, bk, x, S, a, b, T, r, i, p, rfl, C, q⟩ := h
    obtain ⟨dx, td, fd, sd, as, bs, h1, h2, h3, h4, h5, h6, h7⟩ := C.ob
    refine ⟨_, (pss_cons (ps_if (pt_cmpR op_lt (pv 1) (pe_callB call_len_seq (by rfl) Z.b_len PySem.boot_len (pa_cons (pe_fld (pv 0) rfl) pa_nil)) (nomark _))
        (pss_one (ps_ret (pe_ix ix_list (pe_fld (pv 0) rfl) (pv 1) (fun _ _ => rfl))))
        pss_nil)
        (pss_cons (ps_set (i := 2) sc_Chain_settled.nd rfl (Or.inl rfl) (pe_call (ok_met_rows (P := P) (w := w) Z) (hr.mono (by decide)) (by rfl) Z.met_rows.g Z.met_rows.F.kp Z.met_rows.b .nil pass0 (pa_cons (pe_fld (pv 0) rfl) (pa_cons (pe_meth (pv 0) Z.Chain.cl Z.Chain_tail.m (ok_Chain_tail (P := P) (w := w) Z) (hr.mono (by decide)) Z.Chain_tail.b .nil pass0 (pa_cons (pe_op op_sub (pv 1) pe_int) pa_nil)) (pa_cons (pe_fld (pv 0) rfl) pa_nil)))))
        (pss_one (ps_ret (pe_slice sl_row (pv 2) po_none (po_some (pe_callB call_len_row (by rfl) Z.b_len PySem.boot_len (pa_cons (pe_fld (pv 0) rfl) pa_nil)))))))), ?_⟩
    refine ⟨_, rfl, _, rfl, c, Z.CChain, dx, _, _, rfl, h1, Z.Chain.cl, Z.Chain.a_tails, F_Chain_tails _ _ _ _ _ _ _, td, _, rfl, .inl (SqL.of h2), (n : Int), ((List.map V.ref as).length : Int), rfl, rfl, _, rfl, ?_⟩
    rw [List.length_map, h4]
    refine ite2 (fun e => ?_) (fun e => ?_)
    · have e1 : n < bs.length := by
        have := of_decide_eq_true e
        omega
      have ht : bs[n]? = some bs[n] := List.getElem?_eq_getElem e1
      exact ⟨_, rfl, c, Z.CChain, dx, _, _, rfl, h1, Z.Chain.cl, Z.Chain.a_fixed, F_Chain_fixed _ _ _ _ _ _ _, _, rfl, fd, _, _, _, rfl, rfl, SqL.of h3, atI_map ht, q _ H (Same.refl H) (h7 _ _ ht)⟩
    · have e1 : i + p ≤ n := by
        have : ¬ (n : Int) < ((i + p : Nat) : Int) := fun z => e (decide_eq_true z)
        omega
      obtain ⟨m, rfl⟩ : ∃ m, n = m + 1 := ⟨n - 1, by have := C.p0; omega⟩
      have full : (tl T a b r m).length = a := tl_full_mono C.W.bk.ok C.W.w1 (i := i) (by have := C.p0; omega) (tl_again C.W.bk.ok C.W.w1 C.p0 C.per)
      refine ⟨_, rfl, c, Z.CChain, dx, _, _, rfl, h1, Z.Chain.cl, Z.Chain.a_book, F_Chain_book _ _ _ _ _ _ _, ?_⟩
      refine ⟨_, rfl, c, dx, _, rfl, h1, F_Chain_no_tail _ _ _ _ _ _ _, _, rfl, ((m + 1 : Nat) : Int), 1, rfl, rfl, c, m, bk, x, S, a, b, T, r, i, p, ?_, C, fun t ht => ?_⟩
      · show [V.ref c, V.int (((m + 1 : Nat) : Int) - 1)] = [V.ref c, V.int (Int.ofNat m)]
        have : ((m + 1 : Nat) : Int) - 1 = Int.ofNat m := by
          show ((m + 1 : Nat) : Int) - 1 = (m : Int)
          omega
        rw [this]
      refine ⟨_, rfl, c, Z.CChain, dx, _, _, rfl, h1, Z.Chain.cl, Z.Chain.a_word, F_Chain_word _ _ _ _ _ _ _, bk, t, x, _, r, S, a, b, T, rfl, C.W.bk, ht, C.W.row, ?_, by have := C.W.w2; omega, fun u H1 s1 e2 => ?_⟩
      · rw [full]
        have := C.W.bk.a4
        omega
      refine ⟨_, rfl, _, rfl, c, Z.CChain, dx, _, _, rfl, s1 _ _ h1, Z.Chain.cl, Z.Chain.a_word, F_Chain_word _ _ _ _ _ _ _, x, r, rfl, C.W.row.same s1, _, rfl, u, _, rfl, e2, fun v H2 s2 e3 => ?_⟩
      rw [cutR_upto, ← fx_eq_take C.W.bk.ok full] at e3
      exact q v H2 (s1.trans s2) e3
/-! ### full -/
def spFull (P : Program) (w : World) (CB CC : Addr) : Sp := fun vs H Q _ => ∃ c bk x S a b T r i p, vs = [.ref c] ∧ ChainAt P w CB CC H c bk x S a b T r i p ∧ ∀ f, f ≤ a → (tl T a b r f).length = a → Q (.int (Int.ofNat f)) H
theorem ok_Chain_full (Z : Defs K mg) : FnOk P w K mg base CX0 3 Z.Chain_full.f Z.Chain_full.fd ["self"] (spFull P w Z.CBook Z.CChain) := by
  refine Z.Chain_full.F.ok sc_Chain_full (fun vs H Q E h => ?_) (fun cdv A outer s H vs Q E hr h => ?_)
  · obtain ⟨c, bk, x, S, a, b, T, r, i, p, rfl, _⟩ := h
    rfl
  · obtain ⟨c, bk, x, S, a, b, T, r, i, p, rfl, C, q⟩ := h
    obtain ⟨dx, td, fd, sd, as, bs, h1, h2, h3, h4, h5, h6, h7⟩ := C.ob
    obtain ⟨bx, bd, bt, g1, _, _⟩ := C.W.bk.ob
    refine ⟨_, (pss_cons (ps_set (i := 1) sc_Chain_full.nd rfl (Or.inl rfl) pe_int)
        (pss_cons (ps_while PassesOwn.never (pt_cmpR op_lt (pe_callB call_len_row (by rfl) Z.b_len PySem.boot_len (pa_cons (pe_meth (pv 0) Z.Chain.cl Z.Chain_tail.m (ok_Chain_tail (P := P) (w := w) Z) (hr.mono (by decide)) Z.Chain_tail.b .nil pass0 (pa_cons (pv 1) pa_nil)) pa_nil)) (pe_fld (pe_fld (pv 0) rfl) rfl) (nomark _))
        (pss_one (ps_aug (i := 1) sc_Chain_full.nd rfl (Or.inl rfl) pe_int ip_add)))
        (pss_one (ps_ret (pv 1))))), ?_⟩
    refine ⟨fun m σ H' => ∃ j : Nat, σ = [some (.ref c), some (.int (Int.ofNat j))] ∧ H' = H ∧ m + j = a, ⟨a, 0, rfl, rfl, by omega⟩, ?_⟩
    rintro m σ H' ⟨j, rfl, rfl, hm⟩
    refine ⟨_, rfl, c, dx, _, rfl, h1, F_Chain_no_tail _ _ _ _ _ _ _, _, rfl, c, j, bk, x, S, a, b, T, r, i, p, rfl, C, fun t ht => ?_⟩
    refine ⟨t, _, rfl, ht, _, rfl, c, Z.CChain, dx, _, _, rfl, h1, Z.Chain.cl, Z.Chain.a_book, F_Chain_book _ _ _ _ _ _ _, bk, Z.CBook, bx, _, _, rfl, g1, Z.Book.cl, Z.Book.a_kept_ahead, F_Book_kept_ahead _ _ _ _, ((tl T a b r j).length : Int), (a : Int), rfl, rfl, _, rfl, ?_⟩
    have hlen := tl_len (a := a) (b := b) C.W.bk.ok C.W.w1 j
    refine ite2 (fun e => ?_) (fun e => ?_)
    · have e1 : (tl T a b r j).length < a := by
        have := of_decide_eq_true e
        omega
      have e2 : j + 1 < a := by
        have h8 : (j + 1) * 1 ≤ (j + 1) * r.length := Nat.mul_le_mul_left _ C.W.w1
        omega
      refine ⟨fun σ' H1 => σ' = [some (.ref c), some (.int (Int.ofNat (j + 1)))] ∧ H1 = H', fun σ' H1 ⟨e3, e4⟩ => ⟨m - 1, by omega, j + 1, e3, e4, by omega⟩, ?_⟩
      exact ⟨_, rfl, _, _, rfl, rfl, rfl, rfl⟩
    · have e1 : (tl T a b r j).length = a := by
        have : ¬ (((tl T a b r j).length : Nat) : Int) < (a : Int) := fun z => e (decide_eq_true z)
        omega
      exact ⟨_, rfl, q j (by omega) e1⟩
end
end K98
/-! The sound at a place of a chain. -/
namespace K98
open PySem PySem.Spec PyProof.Rows L2
theorem min_ite (f n : Nat) : (if Int.ofNat (n + 1) - 1 < Int.ofNat f then Int.ofNat (n + 1) - 1 else Int.ofNat f) = Int.ofNat (min f n) := by
  have e : Int.ofNat (n + 1) - 1 = (n : Int) := by
    show ((n + 1 : Nat) : Int) - 1 = (n : Int)
    omega
  rw [e]
  show (if (n : Int) < (f : Int) then (n : Int) else (f : Int)) = ((min f n : Nat) : Int)
  split <;> omega
theorem ofNat_toNat (n : Nat) : (Int.ofNat n).toNat = n := rfl
section
variable {P : Program} {w : World} {K : PySem.W.Frag} {mg : PySem.Str → Option Value} {base : Heap}
def spSound (P : Program) (w : World) (CB CC : Addr) : Sp := fun vs H Q _ => ∃ c n g bk x S a b T r i p, vs = [.ref c, .int (Int.ofNat (n + 1)), .int (Int.ofNat g)] ∧ ChainAt P w CB CC H c bk x S a b T r i p ∧ g < (n + 1) * r.length ∧ ∀ v H', Same H H' → (chn T a b r n)[g]? = some v → Q (.int v) H'
theorem ok_Chain_sound (Z : Defs K mg) : FnOk P w K mg base CX0 5 Z.Chain_sound.f Z.Chain_sound.fd ["self", "times", "place"] (spSound P w Z.CBook Z.CChain) := by
  refine Z.Chain_sound.F.ok sc_Chain_sound (fun vs H Q E h => ?_) (fun cdv A outer s H vs Q E hr h => ?_)
  · obtain ⟨c, n, g, bk, x, S, a, b, T, r, i, p, rfl, _⟩ := h
    rfl
  · obtain ⟨c, n, g, bk, x, S, a, b, T, r, i, p, rfl, C, hg, q⟩ := h
    obtain ⟨dx, td, fd, sd, as, bs, h1, h2, h3, h4, h5, h6, h7⟩ := C.ob
    have tok := C.W.bk.ok
    have w1 := C.W.w1
    have hlen := chn_len (T := T) (a := a) (b := b) (w := r) tok n
    refine ⟨_, (pss_cons (ps_set (i := 3) sc_Chain_sound.nd rfl (Or.inl rfl) (pe_callB (call_min2 rfl) (by rfl) Z.b_min (by decide +kernel) (pa_cons (pe_meth0 (pv 0) Z.Chain.cl Z.Chain_full.m (ok_Chain_full (P := P) (w := w) Z) (hr.mono (by decide)) Z.Chain_full.b .nil pass0) (pa_cons (pe_op op_sub (pv 1) pe_int) pa_nil))))
        (pss_cons (ps_for PassesOwn.never rfl (pi_range1 rfl Z.b_range (pa_cons (pe_op op_add (pv 3) pe_int) pa_nil)) (pg_name (i := 4) sc_Chain_sound.nd rfl (Or.inl rfl))
        (pss_cons (ps_set (i := 5) sc_Chain_sound.nd rfl (Or.inl rfl) (pe_meth (pv 0) Z.Chain.cl Z.Chain_settled.m (ok_Chain_settled (P := P) (w := w) Z) (hr.mono (by decide)) Z.Chain_settled.b .nil pass0 (pa_cons (pv 4) pa_nil)))
          (pss_cons (ps_if (pt_cmpR op_lt (pv 2) (pe_callB call_len_row (by rfl) Z.b_len PySem.boot_len (pa_cons (pv 5) pa_nil)) (nomark _))
          (pss_one (ps_ret (pe_ix ix_row (pv 5) (pv 2) (fun _ _ => rfl))))
          pss_nil)
          (pss_one (ps_aug (i := 2) sc_Chain_sound.nd rfl (Or.inl rfl) (pe_callB call_len_row (by rfl) Z.b_len PySem.boot_len (pa_cons (pv 5) pa_nil)) ip_sub)))))
        (pss_cons (ps_set (i := 6) sc_Chain_sound.nd rfl (Or.inl rfl) (pe_op op_fdivW (pv 2) (pe_callB call_len_row (by rfl) Z.b_len PySem.boot_len (pa_cons (pe_fld (pv 0) rfl) pa_nil))))
        (pss_cons (ps_if (pt_cmpR op_lt (pe_op op_add (pe_op op_add (pv 3) pe_int) (pv 6)) (pv 1) (nomark _))
        (pss_one (ps_ret (pe_ix ix_row (pe_meth (pv 0) Z.Chain.cl Z.Chain_settled.m (ok_Chain_settled (P := P) (w := w) Z) (hr.mono (by decide)) Z.Chain_settled.b .nil pass0 (pa_cons (pe_op op_add (pe_op op_add (pv 3) pe_int) (pv 6)) pa_nil)) (pe_op op_mod (pv 2) (pe_callB call_len_row (by rfl) Z.b_len PySem.boot_len (pa_cons (pe_fld (pv 0) rfl) pa_nil))) (fun _ _ => rfl))))
        pss_nil)
        (pss_one (ps_ret (pe_ix ix_row (pe_meth (pv 0) Z.Chain.cl Z.Chain_tail.m (ok_Chain_tail (P := P) (w := w) Z) (hr.mono (by decide)) Z.Chain_tail.b .nil pass0 (pa_cons (pe_op op_sub (pv 1) pe_int) pa_nil)) (pe_op op_sub (pv 2) (pe_op op_mul (pe_op op_sub (pe_op op_sub (pv 1) pe_int) (pv 3)) (pe_callB call_len_row (by rfl) Z.b_len PySem.boot_len (pa_cons (pe_fld (pv 0) rfl) pa_nil)))) (fun _ _ => rfl)))))))), ?_⟩
    -- start = min(self.full(), times - 1)
    refine ⟨_, rfl, c, dx, _, rfl, h1, F_Chain_no_full _ _ _ _ _ _ _, c, bk, x, S, a, b, T, r, i, p, rfl, C, fun f hf1 hf2 => ?_⟩
    refine ⟨_, rfl, _, _, rfl, rfl, _, _, rfl, ?_⟩
    rw [min_ite]
    have a4 := C.W.bk.a4
    generalize hst : min f n = st
    have st4 : st ≤ 4 := by omega
    have stn : st ≤ n := by omega
    -- for number in range(start + 1)
    refine ⟨_, rfl, _, _, rfl, rfl, _, rfl, ?_, ?_, ?_⟩
    · show -(2 ^ 62) ≤ (st : Int) + 1
      omega
    · show (st : Int) + 1 < 2 ^ 62
      omega
    refine for_range (lo := 0) (n := st + 1) (fun j σ H' => ∃ v4 v5, σ = [some (.ref c), some (.int (Int.ofNat (n + 1))), some (.int (Int.ofNat (g - (fxs T a b r j).length))), some (.int (Int.ofNat st)), v4, v5, none] ∧ Same H H' ∧ (fxs T a b r j).length ≤ g) ⟨none, none, rfl, Same.refl H, Nat.zero_le _⟩ ?_ ?_
    · rintro j σ H' hj ⟨v4, v5, rfl, sm, hle⟩
      refine ⟨_, rfl, c, dx, _, rfl, sm _ _ h1, F_Chain_no_settled _ _ _ _ _ _ _, _, rfl, c, j, bk, x, S, a, b, T, r, i, p, ?_, C.same sm, fun t H1 s1 e1 => ?_⟩
      · show [V.ref c, V.int (0 + (j : Int))] = [V.ref c, V.int (Int.ofNat j)]
        rw [Int.zero_add]
        rfl
      refine ⟨_, rfl, _, rfl, t, _, rfl, e1, _, _, rfl, rfl, _, rfl, ?_⟩
      refine ite2 (fun e => ?_) (fun e => ?_)
      · have e2 : g - (fxs T a b r j).length < (fx T a b r j).length := by
          have e3 : (((g - (fxs T a b r j).length : Nat)) : Int) < ((fx T a b r j).length : Int) := of_decide_eq_true e
          omega
        have e4 : (fx T a b r j)[g - (fxs T a b r j).length]? = some (fx T a b r j)[g - (fxs T a b r j).length] := List.getElem?_eq_getElem e2
        refine ⟨_, rfl, _, rfl, t, _, _, _, rfl, rfl, e1, Int.natCast_nonneg _, e4, q _ H1 (sm.trans s1) ?_⟩
        rw [get_in tok w1 (by omega) hle e2]
        exact e4
      · have e2 : (fx T a b r j).length ≤ g - (fxs T a b r j).length := by
          have e3 : ¬ (((g - (fxs T a b r j).length : Nat)) : Int) < ((fx T a b r j).length : Int) := fun z => e (decide_eq_true z)
          omega
        have e5 : (fxs T a b r (j + 1)).length = (fxs T a b r j).length + (fx T a b r j).length := List.length_append
        refine ⟨_, rfl, _, rfl, t, _, rfl, e1, _, _, rfl, rfl, some (.int (0 + (j : Int))), some (.ref t), ?_, sm.trans s1, by omega⟩
        have e6 : Int.ofNat (g - (fxs T a b r j).length) - ((fx T a b r j).length : Int) = Int.ofNat (g - (fxs T a b r (j + 1)).length) := by
          rw [e5]
          show ((g - (fxs T a b r j).length : Nat) : Int) - _ = ((g - ((fxs T a b r j).length + (fx T a b r j).length) : Nat) : Int)
          omega
        show _ = [some (V.ref c), some (.int (Int.ofNat (n + 1))), some (.int (Int.ofNat (g - (fxs T a b r (j + 1)).length))), some (.int (Int.ofNat st)), some (.int (0 + (j : Int))), some (.ref t), none]
        rw [← e6]
        rfl
    · rintro σ H' ⟨v4, v5, rfl, sm, hle⟩
      obtain ⟨L, hL⟩ : ∃ L, L = (fxs T a b r (st + 1)).length := ⟨_, rfl⟩
      rw [← hL] at hle ⊢
      generalize hk : g - L = k
      have wrow := C.W.row
      have hlall := fxs_len_st (a := a) (b := b) tok w1 hf2 n
      rw [hst, ← hL] at hlall
      have hl2 : ((r.length : Nat) : Int).natAbs < 2 ^ 20 := by
        have := C.W.w2
        show r.length < 2 ^ 20
        omega
      -- further = place // len(self.word)
      refine ⟨_, rfl, _, rfl, c, Z.CChain, dx, _, _, rfl, sm _ _ h1, Z.Chain.cl, Z.Chain.a_word, F_Chain_word _ _ _ _ _ _ _, x, r, rfl, wrow.same sm, _, _, rfl, rfl, wide_div (by omega) hl2 (by decide) (by decide), ?_⟩
      have ediv : Int.ofNat k / ((r.length : Nat) : Int) = Int.ofNat (k / r.length) := rfl
      have emod : Int.ofNat k % ((r.length : Nat) : Int) = Int.ofNat (k % r.length) := rfl
      refine ⟨_, rfl, _, _, rfl, rfl, _, rfl, _, _, rfl, rfl, _, rfl, _, _, rfl, rfl, _, rfl, ?_⟩
      have h9 := Nat.mod_add_div k r.length
      have h10 := Nat.mod_lt k (show 0 < r.length by omega)
      refine ite2 (fun e => ?_) (fun e => ?_)
      · have e1 : st + 1 + k / r.length < n + 1 := by
          have e2 : ((st : Int) + 1 + ((k / r.length : Nat) : Int)) < ((n + 1 : Nat) : Int) := of_decide_eq_true e
          omega
        have e3 : st + 1 < n + 1 := Nat.lt_of_le_of_lt (Nat.le_add_right _ _) e1
        have hfst : f = st := by omega
        subst hfst
        have gm := get_mid (a := a) (b := b) (T := T) (w := r) (n := n) (q := k) tok w1 hf2 (by omega)
        rw [← hL, show L + k = g by omega] at gm
        have hlt : g < (chn T a b r n).length := by rw [hlen]; exact hg
        have gv : (chn T a b r n)[g]? = some (chn T a b r n)[g] := List.getElem?_eq_getElem hlt
        refine ⟨_, rfl, c, dx, _, rfl, sm _ _ h1, F_Chain_no_settled _ _ _ _ _ _ _, _, rfl, _, _, rfl, rfl, _, rfl, _, _, rfl, rfl, c, f + 1 + k / r.length, bk, x, S, a, b, T, r, i, p, ?_, C.same sm, fun t H1 s1 e2 => ?_⟩
        · show [V.ref c, V.int (Int.ofNat f + 1 + Int.ofNat (k / r.length))] = [V.ref c, V.int (Int.ofNat (f + 1 + k / r.length))]
          rfl
        refine ⟨_, rfl, _, rfl, c, Z.CChain, dx, _, _, rfl, s1 _ _ (sm _ _ h1), Z.Chain.cl, Z.Chain.a_word, F_Chain_word _ _ _ _ _ _ _, x, r, rfl, (wrow.same sm).same s1, _, _, rfl, rfl, by omega, ?_⟩
        refine ⟨t, _, Int.ofNat (k % r.length), _, rfl, rfl, e2, Int.natCast_nonneg _, ?_, q _ H1 (sm.trans s1) gv⟩
        rw [ofNat_toNat, ← gm]
        exact gv
      · have e1 : n + 1 ≤ st + 1 + k / r.length := by
          have e2 : ¬ ((st : Int) + 1 + ((k / r.length : Nat) : Int)) < ((n + 1 : Nat) : Int) := fun z => e (decide_eq_true z)
          omega
        have hlt : g < (chn T a b r n).length := by rw [hlen]; exact hg
        have gv : (chn T a b r n)[g]? = some (chn T a b r n)[g] := List.getElem?_eq_getElem hlt
        have hmul : (n - st) * r.length ≤ k := by
          have h11 : (n - st) * r.length ≤ (k / r.length) * r.length := Nat.mul_le_mul_right _ (by omega)
          have h12 : (k / r.length) * r.length = r.length * (k / r.length) := Nat.mul_comm _ _
          omega
        have gt := get_tail (a := a) (b := b) (T := T) (w := r) (n := n) (p := k - (n - st) * r.length) tok w1
        rw [hlall, show L + (n - st) * r.length + (k - (n - st) * r.length) = g by omega] at gt
        refine ⟨_, rfl, c, dx, _, rfl, sm _ _ h1, F_Chain_no_tail _ _ _ _ _ _ _, _, rfl, _, _, rfl, rfl, c, n, bk, x, S, a, b, T, r, i, p, ?_, C.same sm, fun t e2 => ?_⟩
        · show [V.ref c, V.int (Int.ofNat (n + 1) - 1)] = [V.ref c, V.int (Int.ofNat n)]
          have : Int.ofNat (n + 1) - 1 = Int.ofNat n := by
            show ((n + 1 : Nat) : Int) - 1 = (n : Int)
            omega
          rw [this]
        refine ⟨_, rfl, _, rfl, _, _, rfl, rfl, _, rfl, _, _, rfl, rfl, _, rfl, c, Z.CChain, dx, _, _, rfl, sm _ _ h1, Z.Chain.cl, Z.Chain.a_word, F_Chain_word _ _ _ _ _ _ _, x, r, rfl, wrow.same sm, _, _, rfl, rfl, .inr ⟨by omega, by omega⟩, _, _, rfl, rfl, ?_⟩
        have e3 : Int.ofNat k - (Int.ofNat (n + 1) - 1 - Int.ofNat st) * ((r.length : Nat) : Int) = Int.ofNat (k - (n - st) * r.length) := by
          have e4 : Int.ofNat (n + 1) - 1 - Int.ofNat st = ((n - st : Nat) : Int) := by
            show ((n + 1 : Nat) : Int) - 1 - (st : Int) = _
            omega
          rw [e4, ← Int.natCast_mul]
          show (k : Int) - _ = ((k - (n - st) * r.length : Nat) : Int)
          omega
        refine ⟨t, _, Int.ofNat (k - (n - st) * r.length), _, rfl, congrArg V.int e3, e2, Int.natCast_nonneg _, ?_, q _ H' sm gv⟩
        rw [ofNat_toNat, ← gt]
        exact gv
end
end K98
/-! How often a sound stands in a chain. -/
namespace K98
open PySem PySem.Spec PyProof.Rows L2
theorem min_ite2 (m l : Nat) : (if Int.ofNat l < Int.ofNat m then Int.ofNat l else Int.ofNat m) = Int.ofNat (min m l) := by
  show (if (l : Int) < (m : Int) then (l : Int) else (m : Int)) = ((min m l : Nat) : Int)
  split <;> omega
/-- so many counts, as ints -/
def cl (f : Nat → Nat) (n : Nat) : List Int := (List.range n).map fun k => (f k : Int)
theorem cl_succ (f : Nat → Nat) (n : Nat) : cl f (n + 1) = cl f n ++ [(f n : Int)] := by
  unfold cl
  rw [List.range_succ, List.map_append]
  rfl
theorem cl_len (f : Nat → Nat) (n : Nat) : (cl f n).length = n := by
  unfold cl
  rw [List.length_map, List.length_range]
theorem cl_sum (f : Nat → Nat) : ∀ n, (cl f n).sum = (sumN f n : Int)
  | 0 => rfl
  | n + 1 => by
    rw [cl_succ, List.sum_append, cl_sum f n]
    show (sumN f n : Int) + ([(f n : Int)]).sum = ((sumN f n + f n : Nat) : Int)
    simp
theorem cl_drop (f : Nat → Nat) (n k : Nat) : (cl f (k + n)).drop k = cl (fun j => f (k + j)) n := by
  induction n with
  | zero =>
    rw [Nat.add_zero]
    show _ = []
    exact List.drop_eq_nil_of_le (by rw [cl_len]; exact Nat.le_refl _)
  | succ n ih =>
    rw [show k + (n + 1) = (k + n) + 1 by omega, cl_succ, List.drop_append_of_le_length (by rw [cl_len]; omega), ih, cl_succ]
theorem cl_take (f : Nat → Nat) {n m : Nat} (h : m ≤ n) : (cl f n).take m = cl f m := by
  induction n with
  | zero =>
    have : m = 0 := by omega
    subst this
    rfl
  | succ n ih =>
    by_cases c : m = n + 1
    · subst c
      rw [List.take_of_length_le (by rw [cl_len]; exact Nat.le_refl _)]
    · rw [cl_succ, List.take_append_of_le_length (by rw [cl_len]; omega)]
      exact ih (by omega)
section
variable {T : K2 → K2} {S : Int} {a b : Nat} {w : Row}
/-- what is settled comes round -/
theorem fx_per (h : TOk S T) (hw : 1 ≤ w.length) {i p : Nat} (hp : 0 < p) (e : tl T a b w (i + p) = tl T a b w i) (k : Nat) : fx T a b w (i + 1 + (k + p)) = fx T a b w (i + 1 + k) := by
  have hi := tl_again h hw hp e
  have f1 : (tl T a b w (i + k)).length = a := tl_full_mono h hw (Nat.le_add_right i k) hi
  have f2 : (tl T a b w (i + p + k)).length = a := tl_full_mono h hw (by omega) hi
  rw [show i + 1 + (k + p) = i + p + k + 1 by omega, show i + 1 + k = i + k + 1 by omega, fx_eq_take h f2, fx_eq_take h f1, tl_per e k]
end
section
variable {P : Program} {w : World} {K : PySem.W.Frag} {mg : PySem.Str → Option Value} {base : Heap}
def spCount (P : Program) (w : World) (CB CC : Addr) : Sp := fun vs H Q _ => ∃ c n sd bk x S a b T r i p, vs = [.ref c, .int (Int.ofNat (n + 1)), .int sd] ∧ ChainAt P w CB CC H c bk x S a b T r i p ∧ ∀ H', Same H H' → Q (.int ((chn T a b r n).count sd : Nat)) H'
theorem ok_Chain_count (Z : Defs K mg) : FnOk P w K mg base CX0 5 Z.Chain_count.f Z.Chain_count.fd ["self", "times", "sound"] (spCount P w Z.CBook Z.CChain) := by
  refine Z.Chain_count.F.ok sc_Chain_count (fun vs H Q E h => ?_) (fun cdv A outer s H vs Q E hr h => ?_)
  · obtain ⟨c, n, sd, bk, x, S, a, b, T, r, i, p, rfl, _⟩ := h
    rfl
  · obtain ⟨c, n, sd, bk, x, S, a, b, T, r, i, p, rfl, C, q⟩ := h
    obtain ⟨dx, td, fd, sdd, as, bs, h1, h2, h3, h4, h5, h6, h7⟩ := C.ob
    have tok := C.W.bk.ok
    have w1 := C.W.w1
    have a4 := C.W.bk.a4
    have few := C.few
    have p0 := C.p0
    obtain ⟨cf, hcf⟩ : ∃ cf : Nat → Nat, cf = fun k => (fx T a b r k).count sd := ⟨_, rfl⟩
    refine ⟨_, (pss_cons (ps_set (i := 3) sc_Chain_count.nd rfl (Or.inr rfl) (pe_callB (call_min2 rfl) (by rfl) Z.b_min (by decide +kernel) (pa_cons (pe_meth0 (pv 0) Z.Chain.cl Z.Chain_full.m (ok_Chain_full (P := P) (w := w) Z) (hr.mono (by decide)) Z.Chain_full.b .nil pass0) (pa_cons (pe_op op_sub (pv 1) pe_int) pa_nil))))
        (pss_cons (ps_set (i := 4) sc_Chain_count.nd rfl (Or.inl rfl) (pe_callB (cr_sum rfl) (by rfl) Z.b_sum (by decide +kernel) (pa_cons (pe_lc (own := [("number", 10)]) (g := gName 10) (by rfl) sc_Chain_count.nd (pi_range1 rfl Z.b_range (pa_cons (pe_op op_add (pv 3) pe_int) pa_nil)) (blkOk_by (own := [("number", 10)]) (N := ["self", "times", "sound", "start", "total", "more", "turn", "ring", "rounds", "at", "number"]) (sc := defScope s_Chain_count) (by decide +kernel)) (fun _ _ _ _ _ => (pg_name (i := 10) sc_Chain_count.nd rfl (Or.inl rfl))) (fun _ _ _ _ _ => pts_nil) (fun _ _ _ _ _ => (pe_count_row (pe_meth (pv 0) Z.Chain.cl Z.Chain_settled.m (ok_Chain_settled (P := P) (w := w) Z) (hr.mono (by decide)) Z.Chain_settled.b .nil pass0 (pa_cons (pv 10) pa_nil)) (pa_cons (pv 2) pa_nil)))) pa_nil)))
        (pss_cons (ps_set (i := 5) sc_Chain_count.nd rfl (Or.inl rfl) (pe_op op_sub (pe_op op_sub (pv 1) pe_int) (pv 3)))
        (pss_cons (ps_setLc (i := 6) (own := [("at", 9)]) (g := gName 9) (by rfl) sc_Chain_count.nd rfl rfl (sw_true rfl rfl rfl (by decide +kernel)) (pi_range1 rfl Z.b_range (pa_cons (pe_callB (call_min2 rfl) (by rfl) Z.b_min (by decide +kernel) (pa_cons (pv 5) (pa_cons (pe_op op_add (pe_fld (pv 0) rfl) (pe_fld (pv 0) rfl)) pa_nil))) pa_nil)) (blkOk_by (own := [("at", 9)]) (N := ["self", "times", "sound", "start", "total", "more", "turn", "ring", "rounds", "at", "number"]) (sc := defScope s_Chain_count) (by decide +kernel)) (fun _ _ _ _ _ => (pg_name (i := 9) sc_Chain_count.nd rfl (Or.inl rfl))) (fun _ _ _ _ _ => pts_nil) (fun _ _ _ _ _ => (pe_count_row (pe_meth (pv 0) Z.Chain.cl Z.Chain_settled.m (ok_Chain_settled (P := P) (w := w) Z) (hr.mono (by decide)) Z.Chain_settled.b .nil pass0 (pa_cons (pe_op op_add (pe_op op_add (pv 3) pe_int) (pv 9)) pa_nil)) (pa_cons (pv 2) pa_nil))))
        (pss_cons (ps_aug (i := 4) sc_Chain_count.nd rfl (Or.inl rfl) (pe_callB (cr_sum rfl) (by rfl) Z.b_sum (by decide +kernel) (pa_cons (pv 6) pa_nil)) ip_add)
        (pss_cons (ps_if (pt_cmpR op_gt (pv 5) (pe_callB call_len_seq (by rfl) Z.b_len PySem.boot_len (pa_cons (pv 6) pa_nil)) (nomark _))
        (pss_cons (ps_set (i := 7) sc_Chain_count.nd rfl (Or.inl rfl) (pe_slice sl_list (pv 6) (po_some (pe_op op_sub (pe_callB call_len_seq (by rfl) Z.b_len PySem.boot_len (pa_cons (pv 6) pa_nil)) (pe_fld (pv 0) rfl))) po_none))
          (pss_cons (ps_set (i := 8) sc_Chain_count.nd rfl (Or.inl rfl) (pe_op op_fdivW (pe_op op_sub (pv 5) (pe_callB call_len_seq (by rfl) Z.b_len PySem.boot_len (pa_cons (pv 6) pa_nil))) (pe_fld (pv 0) rfl)))
          (pss_one (ps_aug (i := 4) sc_Chain_count.nd rfl (Or.inl rfl) (pe_op op_add (pe_op op_mul (pv 8) (pe_callB (cr_sum rfl) (by rfl) Z.b_sum (by decide +kernel) (pa_cons (pv 7) pa_nil))) (pe_callB (cr_sum rfl) (by rfl) Z.b_sum (by decide +kernel) (pa_cons (pe_slice sl_list (pv 7) po_none (po_some (pe_op op_mod (pe_op op_sub (pv 5) (pe_callB call_len_seq (by rfl) Z.b_len PySem.boot_len (pa_cons (pv 6) pa_nil))) (pe_fld (pv 0) rfl)))) pa_nil))) ip_add))))
        pss_nil)
        (pss_one (ps_ret (pe_op op_add (pv 4) (pe_count_row (pe_meth (pv 0) Z.Chain.cl Z.Chain_tail.m (ok_Chain_tail (P := P) (w := w) Z) (hr.mono (by decide)) Z.Chain_tail.b .nil pass0 (pa_cons (pe_op op_sub (pv 1) pe_int) pa_nil)) (pa_cons (pv 2) pa_nil))))))))))), ?_⟩
    -- start = min(self.full(), times - 1)
    refine ⟨_, rfl, c, dx, _, rfl, h1, F_Chain_no_full _ _ _ _ _ _ _, c, bk, x, S, a, b, T, r, i, p, rfl, C, fun f hf1 hf2 => ?_⟩
    refine ⟨_, rfl, _, _, rfl, rfl, _, _, rfl, ?_⟩
    rw [min_ite]
    generalize hst : min f n = st
    have st4 : st ≤ 4 := by omega
    have stn : st ≤ n := by omega
    -- total = sum([..])
    refine ⟨_, rfl, _, _, rfl, rfl, _, rfl, ?_, ?_, fun D hD => ?_⟩
    · show -(2 ^ 62) ≤ (st : Int) + 1
      omega
    · show (st : Int) + 1 < 2 ^ 62
      omega
    refine lc_range (lo := 0) (n := st + 1) (fun j H' => Same H H' ∧ H' D = some (.lst (vr (cl cf j)))) ⟨same_new hD, upd_same⟩ ?_ ?_
    · rintro j H' hj ⟨sm, hd⟩
      refine ⟨rfl, _, rfl, c, dx, _, rfl, sm _ _ h1, F_Chain_no_settled _ _ _ _ _ _ _, _, rfl, c, j, bk, x, S, a, b, T, r, i, p, ?_, C.same sm, fun t H1 s1 e1 => ?_⟩
      · show [V.ref c, V.int (0 + (j : Int))] = [V.ref c, V.int (Int.ofNat j)]
        rw [Int.zero_add]
        rfl
      refine ⟨t, _, rfl, e1, _, rfl, _, sd, rfl, e1, _, s1 _ _ hd, ?_, Same.upd_fresh (sm.trans s1) hD, ?_⟩
      · rw [vr_len, cl_len]
        exact small1000 (by omega)
      · rw [upd_same, cl_succ, hcf]
        unfold vr
        rw [List.map_append]
        rfl
    rintro H1 ⟨s1, hd1⟩
    refine ⟨D, cl cf (st + 1), rfl, SqL.of hd1, ?_⟩
    rw [cl_sum]
    -- more = times - 1 - start
    refine ⟨_, rfl, _, _, rfl, rfl, _, rfl, _, _, rfl, rfl, ?_⟩
    have emore : Int.ofNat (n + 1) - 1 - Int.ofNat st = Int.ofNat (n - st) := by
      show ((n + 1 : Nat) : Int) - 1 - (st : Int) = ((n - st : Nat) : Int)
      omega
    generalize hmm : n - st = m at emore
    -- turn = [..]
    have h1' := s1 _ _ h1
    refine ⟨_, rfl, _, rfl, c, Z.CChain, dx, _, _, rfl, h1', Z.Chain.cl, Z.Chain.a_before, F_Chain_before _ _ _ _ _ _ _, _, rfl, c, Z.CChain, dx, _, _, rfl, h1', Z.Chain.cl, Z.Chain.a_ring, F_Chain_ring _ _ _ _ _ _ _, _, _, rfl, rfl, Int.ofNat m, Int.ofNat (i + p), ?_, ?_⟩
    · show [V.int (Int.ofNat (n + 1) - 1 - Int.ofNat st), V.int ((i : Int) + (p : Int))] = [V.int (Int.ofNat m), V.int (Int.ofNat (i + p))]
      rw [emore]
      rfl
    rw [min_ite2]
    generalize hL : min m (i + p) = L
    refine ⟨_, rfl, ?_, ?_, fun D2 hD2 => ?_⟩
    · show -(2 ^ 62) ≤ (L : Int)
      omega
    · show (L : Int) < 2 ^ 62
      omega
    have gsh : ∃ g : Nat → Nat, g = fun k => cf (st + 1 + k) := ⟨_, rfl⟩
    obtain ⟨g, hg⟩ := gsh
    refine lc_range (lo := 0) (n := L) (fun j H' => Same H1 H' ∧ H' D2 = some (.lst (vr (cl g j)))) ⟨same_new hD2, upd_same⟩ ?_ ?_
    · rintro j H' hj ⟨sm, hd⟩
      refine ⟨rfl, _, rfl, c, dx, _, rfl, sm _ _ h1', F_Chain_no_settled _ _ _ _ _ _ _, _, rfl, _, _, rfl, rfl, _, rfl, _, _, rfl, rfl, c, st + 1 + j, bk, x, S, a, b, T, r, i, p, ?_, (C.same s1).same sm, fun t H2 s2 e1 => ?_⟩
      · show [V.ref c, V.int (Int.ofNat st + 1 + (0 + (j : Int)))] = [V.ref c, V.int (Int.ofNat (st + 1 + j))]
        rw [Int.zero_add]
        rfl
      refine ⟨t, _, rfl, e1, _, rfl, _, sd, rfl, e1, _, s2 _ _ hd, ?_, Same.upd_fresh (sm.trans s2) hD2, ?_⟩
      · rw [vr_len, cl_len]
        exact line20000 (by omega)
      · rw [upd_same, cl_succ, hg, hcf]
        unfold vr
        rw [List.map_append]
        rfl
    rintro H2 ⟨s2, hd2⟩
    have h1'' := s2 _ _ h1'
    have s12 := s1.trans s2
    -- total += sum(turn)
    refine ⟨_, rfl, _, rfl, D2, cl g L, rfl, SqL.of hd2, _, _, rfl, rfl, ?_⟩
    rw [cl_sum]
    -- if more > len(turn)
    refine ⟨_, rfl, _, rfl, D2, _, rfl, .inl (SqL.of hd2), Int.ofNat m, _, ?_, rfl, _, rfl, ?_⟩
    · show V.int (Int.ofNat (n + 1) - 1 - Int.ofNat st) = V.int (Int.ofNat m)
      rw [emore]
    have fin : ∀ (H4 : Hp) (total : Int), Same H H4 → total = (sumN cf (n + 1) : Int) → ∀ t, RowAt H4 t (tl T a b r n) → Q (.int (total + ((tl T a b r n).count sd : Nat))) H4 := fun H4 total s4 et t _ => by
      have ec := count_chn (a := a) (b := b) (T := T) (w := r) tok w1 sd n
      have := q H4 s4
      rw [ec] at this
      rw [et, hcf]
      rw [Int.natCast_add] at this
      exact this
    have etimes : [V.ref c, V.int (Int.ofNat (n + 1) - 1)] = [V.ref c, V.int (Int.ofNat n)] := by
      have : Int.ofNat (n + 1) - 1 = Int.ofNat n := by
        show ((n + 1 : Nat) : Int) - 1 = (n : Int)
        omega
      rw [this]
    have esum : sumN cf (n + 1) = sumN cf (st + 1) + sumN g m := by
      rw [hg, ← sumN_add]
      congr 1
      omega
    refine ite2 (fun e => ?_) (fun e => ?_)
    · have e1 : L < m := by
        have e2 : (((vr (cl g L)).length : Nat) : Int) < Int.ofNat m := of_decide_eq_true e
        rw [vr_len, cl_len] at e2
        have e3 : (L : Int) < (m : Int) := e2
        omega
      have eL : L = i + p := by omega
      have hstf : st = f := by omega
      -- ring = turn[len(turn) - self.ring :]
      refine ⟨_, rfl, _, rfl, D2, _, rfl, .inl (SqL.of hd2), _, rfl, c, Z.CChain, dx, _, _, rfl, h1'', Z.Chain.cl, Z.Chain.a_ring, F_Chain_ring _ _ _ _ _ _ _, _, _, rfl, rfl, _, rfl, D2, _, rfl, SqL.of hd2, fun R hR => ?_⟩
      have gG : ∃ G : Nat → Nat, G = fun k => g (i + k) := ⟨_, rfl⟩
      obtain ⟨G, hG⟩ := gG
      have ering : cutV (vr (cl g L)) (some ((((vr (cl g L)).length : Nat) : Int) - (p : Int))) none = vr (cl G p) := by
        rw [cutV_vr, vr_len, cl_len]
        have : ((L : Int) - (p : Int)) = ((i : Nat) : Int) := by omega
        rw [this, cutR_from, eL, hG, cl_drop]
      have hGper : ∀ k, G (k + p) = G k := fun k => by
        rw [hG, hg, hcf]
        show (fx T a b r (st + 1 + (i + (k + p)))).count sd = (fx T a b r (st + 1 + (i + k))).count sd
        have e4 : tl T a b r (i + st + p) = tl T a b r (i + st) := by
          rw [show i + st + p = i + p + st by omega]
          exact tl_per C.per st
        have e5 := fx_per (a := a) (b := b) (T := T) (w := r) tok w1 p0 e4 k
        rw [show st + 1 + (i + (k + p)) = i + st + 1 + (k + p) by omega, e5, show st + 1 + (i + k) = i + st + 1 + k by omega]
      generalize hHR : upd H2 R (.lst (cutV (vr (cl g L)) (some ((((vr (cl g L)).length : Nat) : Int) - (p : Int))) none)) = HR
      have hRR : HR R = some (.lst (vr (cl G p))) := by rw [← hHR, upd_same, ering]
      have sR : Same H2 HR := by rw [← hHR]; exact same_new hR
      have hd2R := sR _ _ hd2
      have h1R := sR _ _ h1''
      -- rounds = (more - len(turn)) // self.ring
      refine ⟨_, rfl, _, rfl, D2, _, rfl, .inl (SqL.of hd2R), Int.ofNat m, _, ?_, rfl, _, rfl, c, Z.CChain, dx, _, _, rfl, h1R, Z.Chain.cl, Z.Chain.a_ring, F_Chain_ring _ _ _ _ _ _ _, Int.ofNat (m - L), (p : Int), ?_, rfl, wide_div (b := 20) (by omega) ?_ (by decide) (by decide), ?_⟩
      · show V.int (Int.ofNat (n + 1) - 1 - Int.ofNat st) = V.int (Int.ofNat m)
        rw [emore]
      · show V.int (Int.ofNat m - (((vr (cl g L)).length : Nat) : Int)) = V.int (Int.ofNat (m - L))
        rw [vr_len, cl_len]
        have : Int.ofNat m - (L : Int) = Int.ofNat (m - L) := by
          show (m : Int) - (L : Int) = ((m - L : Nat) : Int)
          omega
        rw [this]
      · show p < 2 ^ 20
        omega
      generalize hM : m - L = M
      -- total += rounds * sum(ring) + sum(ring[: ..])
      refine ⟨_, rfl, _, rfl, _, rfl, R, cl G p, rfl, SqL.of hRR, Int.ofNat (M / p), _, rfl, rfl, .inr ?_, ?_⟩
      · rw [cl_sum]
        have hb : ∀ k, sumN G k ≤ k * 1000 := fun k => by
          induction k with
          | zero => exact Nat.le_refl _
          | succ k ih =>
            show sumN G k + G k ≤ _
            have hGk : G k ≤ 1000 := by
              rw [hG, hg, hcf]
              show (fx T a b r (st + 1 + (i + k))).count sd ≤ 1000
              have c1 : (fx T a b r (st + 1 + (i + k))).count sd ≤ (fx T a b r (st + 1 + (i + k))).length := List.count_le_length
              have c2 : (fx T a b r (st + 1 + (i + k))).length ≤ r.length + a := by
                rw [show st + 1 + (i + k) = st + (i + k) + 1 by omega]
                unfold fx
                rw [List.length_take, rw_len_succ tok]
                have := tl_len (a := a) (b := b) tok w1 (st + (i + k))
                omega
              have := C.W.w2
              omega
            rw [Nat.succ_mul]
            omega
        have := hb p
        omega
      refine ⟨_, rfl, _, rfl, _, rfl, D2, _, rfl, .inl (SqL.of hd2R), Int.ofNat m, _, ?_, rfl, _, rfl, c, Z.CChain, dx, _, _, rfl, h1R, Z.Chain.cl, Z.Chain.a_ring, F_Chain_ring _ _ _ _ _ _ _, Int.ofNat M, (p : Int), ?_, rfl, by omega, _, rfl, R, _, rfl, SqL.of hRR, fun R2 hR2 => ?_⟩
      · show V.int (Int.ofNat (n + 1) - 1 - Int.ofNat st) = V.int (Int.ofNat m)
        rw [emore]
      · show V.int (Int.ofNat m - (((vr (cl g L)).length : Nat) : Int)) = V.int (Int.ofNat M)
        rw [vr_len, cl_len]
        have : Int.ofNat m - (L : Int) = Int.ofNat M := by
          show (m : Int) - (L : Int) = (M : Int)
          omega
        rw [this]
      have erest : cutV (vr (cl G p)) none (some (Int.ofNat M % (p : Int))) = vr (cl G (M % p)) := by
        rw [cutV_vr]
        show vr (cutR (cl G p) none (some ((M % p : Nat) : Int))) = _
        rw [cutR_upto, cl_take G (Nat.le_of_lt (Nat.mod_lt M p0))]
      generalize hHR2 : upd HR R2 (.lst (cutV (vr (cl G p)) none (some (Int.ofNat M % (p : Int))))) = HR2
      have hRR2 : HR2 R2 = some (.lst (vr (cl G (M % p)))) := by rw [← hHR2, upd_same, erest]
      have sR2 : Same HR HR2 := by rw [← hHR2]; exact same_new hR2
      refine ⟨R2, cl G (M % p), rfl, SqL.of hRR2, _, _, rfl, rfl, _, _, rfl, rfl, ?_⟩
      have sAll := (s12.trans sR).trans sR2
      refine ⟨_, rfl, _, rfl, c, dx, _, rfl, sAll _ _ h1, F_Chain_no_tail _ _ _ _ _ _ _, _, rfl, _, _, rfl, rfl, c, n, bk, x, S, a, b, T, r, i, p, etimes, C.same sAll, fun t ht => ?_⟩
      refine ⟨t, _, rfl, ht, _, rfl, _, sd, rfl, ht, _, _, rfl, rfl, fin HR2 _ sAll ?_ t ht⟩
      show ((sumN cf (st + 1) : Nat) : Int) + ((sumN g L : Nat) : Int) + (Int.ofNat (M / p) * (cl G p).sum + (cl G (M % p)).sum) = ((sumN cf (n + 1) : Nat) : Int)
      rw [cl_sum, cl_sum, esum]
      have e6 : sumN g m = sumN g L + sumN (fun k => g (L + k)) M := by
        rw [← sumN_add]
        congr 1
        omega
      have e7 : sumN (fun k => g (L + k)) M = sumN G M := sumN_congr fun k _ => by
        have e9 : g (i + (k + p)) = g (i + k) := by
          have := hGper k
          rw [hG] at this
          exact this
        rw [hG]
        show g (L + k) = g (i + k)
        rw [← e9]
        congr 1
        omega
      have e8 : sumN G M = M / p * sumN G p + sumN G (M % p) := by
        have := sumN_rounds hGper (M / p) (M % p)
        rw [← this]
        congr 1
        have h9 := Nat.mod_add_div M p
        rw [Nat.mul_comm]
        omega
      rw [e6, e7, e8]
      show ((sumN cf (st + 1) : Nat) : Int) + ((sumN g L : Nat) : Int) + (((M / p : Nat) : Int) * ((sumN G p : Nat) : Int) + ((sumN G (M % p) : Nat) : Int)) = ((sumN cf (st + 1) + (sumN g L + (M / p * sumN G p + sumN G (M % p))) : Nat) : Int)
      rw [← Int.natCast_mul]
      omega
    · have e1 : m ≤ L := by
        have e2 : ¬ (((vr (cl g L)).length : Nat) : Int) < Int.ofNat m := fun z => e (decide_eq_true z)
        rw [vr_len, cl_len] at e2
        have e3 : ¬ (L : Int) < (m : Int) := e2
        omega
      have eL : L = m := by omega
      refine ⟨_, rfl, _, rfl, c, dx, _, rfl, h1'', F_Chain_no_tail _ _ _ _ _ _ _, _, rfl, _, _, rfl, rfl, c, n, bk, x, S, a, b, T, r, i, p, etimes, (C.same s1).same s2, fun t ht => ?_⟩
      refine ⟨t, _, rfl, ht, _, rfl, _, sd, rfl, ht, _, _, rfl, rfl, fin H2 _ s12 ?_ t ht⟩
      show ((sumN cf (st + 1) : Nat) : Int) + ((sumN g L : Nat) : Int) = ((sumN cf (n + 1) : Nat) : Int)
      rw [esum, eL]
      omega
end
end K98
/-! A chain made: cut, __init__. -/
namespace K98
open PySem PySem.Spec PyProof.Rows L2
theorem SameBut.upd_fresh {p q : Addr} {H0 H : Hp} {o : HO} (s : SameBut p H0 H) (h : H0 q = none) : SameBut p H0 (L2.upd H q o) := fun b x e n => by
  rw [upd_ne (ne_of_none e h)]
  exact s b x e n
theorem SameBut.upd_at {p : Addr} {H0 H : Hp} {o : HO} (s : SameBut p H0 H) : SameBut p H0 (L2.upd H p o) := fun b x e n => by
  rw [upd_ne n]
  exact s b x e n
theorem RowAt.but {p : Addr} {H H' : Hp} {a : Addr} {r : Row} {o : HO} (h : RowAt H a r) (hp : H p = some o) (n : isT o = false) (s : SameBut p H H') : RowAt H' a r := h.keep fun b x e q => s b x e fun z => by
  rw [z, hp] at e
  cases e
  rw [n] at q
  cases q
theorem PairAt.but {p : Addr} {H H' : Hp} {a : Addr} {k : K2} {o : HO} (h : PairAt H a k) (hp : H p = some o) (n : isT o = false) (s : SameBut p H H') : PairAt H' a k := h.keep fun b x e q => s b x e fun z => by
  rw [z, hp] at e
  cases e
  rw [n] at q
  cases q
theorem Keeps.but {p : Addr} {H H' : Hp} {o : HO} (hp : H p = some o) (n : isT o = false) (s : SameBut p H H') : Keeps H H' := fun b x e q => s b x e fun z => by
  rw [z, hp] at e
  cases e
  rw [n] at q
  cases q
theorem BookAt.but {P : Program} {w : World} {C : Addr} {H H' : Hp} {p c : Addr} {S a b : Nat} {T : K2 → K2} {o : HO} (x : BookAt P w C H p S a b T) (hc : H c = some o) (ni : ∀ C' dx v1 v2 v3 v4, o ≠ .ins C' dx (F_Book v1 v2 v3 v4)) (nx : ∀ φ, o ≠ .ext φ) (nt : isT o = false) (s : SameBut c H H') : BookAt P w C H' p S a b T := by
  obtain ⟨⟨dx, d, t, h1, ⟨kvs, ⟨xs, hd, r, nd, z⟩, tv⟩, h3⟩, r1, r2, r3, r4, r5, r6⟩ := x
  have kp := Keeps.but hc nt s
  refine ⟨⟨dx, d, t, s _ _ h1 fun e => ?_, ⟨kvs, ⟨xs, s _ _ hd fun e => ?_, NT.keep r kp, nd, z⟩, TVs.keep tv kp⟩, h3⟩, r1, r2, r3, r4, r5, r6⟩
  · rw [e, hc] at h1
    exact ni _ _ _ _ _ _ (Option.some.inj h1)
  · rw [e, hc] at hd
    exact nx _ (Option.some.inj hd)
theorem F_Book_ne {v1 v2 v3 v4 : V} : F_Book v1 v2 v3 v4 ≠ [] := by
  rw [F_Book_eq]
  intro z
  cases z
theorem WordAt.but {P : Program} {w : World} {CB CC : Addr} {H H' : Hp} {p x c dx : Addr} {S a b : Nat} {T : K2 → K2} {r : Row} (h : WordAt P w CB H p x S a b T r) (hc : H c = some (.ins CC dx [])) (s : SameBut c H H') : WordAt P w CB H' p x S a b T r :=
  ⟨h.bk.but hc (fun _ _ _ _ _ _ z => by injection z with _ _ z3; exact F_Book_ne z3.symm) (fun _ z => nomatch z) rfl s, h.row.but hc rfl s, h.sd, h.w1, h.w2⟩
/-- the tails met so far, with their numbers -/
def tk (T : K2 → K2) (a b : Nat) (r : Row) (n : Nat) : List (Row × V) := (List.range n).map fun j => (tl T a b r j, V.int (Int.ofNat j))
theorem tk_succ (T : K2 → K2) (a b : Nat) (r : Row) (n : Nat) : tk T a b r (n + 1) = tk T a b r n ++ [(tl T a b r n, V.int (Int.ofNat n))] := by
  unfold tk
  rw [List.range_succ, List.map_append]
  rfl
theorem tk_val {T : K2 → K2} {a b : Nat} {r : Row} (k : Row) : ∀ n, (valV (tk T a b r n) k = none ∧ ∀ j, j < n → tl T a b r j ≠ k) ∨ ∃ j, j < n ∧ tl T a b r j = k ∧ valV (tk T a b r n) k = some (.int (Int.ofNat j))
  | 0 => .inl ⟨rfl, fun j h => absurd h (Nat.not_lt_zero j)⟩
  | n + 1 => by
    rw [tk_succ]
    rcases tk_val (T := T) (a := a) (b := b) (r := r) k n with ⟨h1, h2⟩ | ⟨j, h1, h2, h3⟩
    · by_cases e : tl T a b r n = k
      · refine .inr ⟨n, Nat.lt_succ_self n, e, ?_⟩
        rw [← e, valV_snoc _ _ _ _ (by rw [e]; exact h1), if_pos rfl]
      · refine .inl ⟨?_, fun j hj => ?_⟩
        · have : valV (tk T a b r n ++ [(tl T a b r n, V.int (Int.ofNat n))]) k = valV (tk T a b r n) k := by
            unfold valV
            rw [List.find?_append]
            have h4 : (tk T a b r n).find? (fun kv => decide (kv.1 = k)) = none := by
              unfold valV at h1
              exact Option.map_eq_none_iff.mp h1
            rw [h4]
            simp [e]
          rw [this]
          exact h1
        · by_cases c : j = n
          · rw [c]; exact e
          · exact h2 j (by omega)
    · refine .inr ⟨j, by omega, h2, ?_⟩
      unfold valV at h3 ⊢
      rw [List.find?_append]
      cases q : (tk T a b r n).find? (fun kv => decide (kv.1 = k)) with
      | none => rw [q] at h3; cases h3
      | some z => rw [q] at h3; exact h3
/-- a chain that is being made: n words have been cut -/
structure ChainW (P : Program) (w : World) (CB CC : Addr) (H0 H : Hp) (c bk x : Addr) (S a b : Nat) (T : K2 → K2) (r : Row) (n : Nat) : Prop where
  W : WordAt P w CB H0 bk x S a b T r
  c0 : ∃ dx, H0 c = some (.ins CC dx [])
  sb : SameBut c H0 H
  ob : ∃ dx td fd sd as bs, H c = some (.ins CC dx (F_Chain (.ref bk) (.ref x) (.ref td) (.ref fd) (.ref sd) .non .non)) ∧ H td = some (.lst (List.map V.ref as)) ∧ H fd = some (.lst (List.map V.ref bs)) ∧ NDict rowS P w H sd (tk T a b r n) ∧ as.length = n ∧ bs.length = n ∧
    (∀ (j : Nat) (t : Addr), as[j]? = some t → RowAt H t (tl T a b r j)) ∧ (∀ (j : Nat) (t : Addr), bs[j]? = some t → RowAt H t (fx T a b r j)) ∧ H0 td = none ∧ H0 fd = none ∧ H0 sd = none ∧ td ≠ fd
  nd : ((List.range n).map (tl T a b r)).Nodup
theorem ChainW.few {P : Program} {w : World} {CB CC : Addr} {H0 H : Hp} {c bk x : Addr} {S a b : Nat} {T : K2 → K2} {r : Row} {n : Nat} (h : ChainW P w CB CC H0 H c bk x S a b T r n) : n ≤ 6561 := by
  have h1 := rows_few (m := 4) h.nd (fun z hz => by
    obtain ⟨j, _, e⟩ := List.mem_map.mp hz
    rw [← e]
    have := h.W.bk.s8
    exact (tl_in h.W.bk.ok h.W.sd j).mono (by omega)) (fun z hz => by
    obtain ⟨j, _, e⟩ := List.mem_map.mp hz
    rw [← e, tl_len h.W.bk.ok h.W.w1]
    have := h.W.bk.a4
    omega)
  rw [List.length_map, List.length_range] at h1
  exact h1
theorem get_snoc {as : List Addr} {u t : Addr} {j n : Nat} (hn : as.length = n) (h : (as ++ [u])[j]? = some t) : as[j]? = some t ∨ (j = n ∧ t = u) := by
  by_cases c : j < as.length
  · rw [List.getElem?_append_left c] at h
    exact .inl h
  · rw [List.getElem?_append_right (by omega)] at h
    have e : j - as.length = 0 := by
      cases q : j - as.length with
      | zero => rfl
      | succ m => rw [q] at h; cases h
    rw [e] at h
    exact .inr ⟨by omega, (Option.some.inj h).symm⟩
section
variable {P : Program} {w : World} {K : PySem.W.Frag} {mg : PySem.Str → Option Value} {base : Heap}
def spCut (P : Program) (w : World) (CB CC : Addr) : Sp := fun vs H Q _ => ∃ H0 c n row bk x S a b T r, vs = [.ref c, .ref row] ∧ ChainW P w CB CC H0 H c bk x S a b T r n ∧ RowAt H row (rw_ T a b r n) ∧
  (∀ H' q, ChainW P w CB CC H0 H' c bk x S a b T r (n + 1) → RowAt H' q (rw_ T a b r (n + 1)) → Q (.ref q) H') ∧
  ∀ H' j, j < n → SameBut c H0 H' → ChainAt P w CB CC H' c bk x S a b T r j (n - j) → Q (.ref row) H'
theorem rw_len {T : K2 → K2} {S : Int} {a b : Nat} {r : Row} (h : TOk S T) (n : Nat) : (rw_ T a b r n).length ≤ a + r.length := by
  cases n with
  | zero => exact Nat.le_add_left _ _
  | succ n =>
    rw [rw_len_succ h]
    cases n with
    | zero =>
      show (lastN a r).length + _ ≤ _
      rw [lastN_len]
      omega
    | succ m =>
      show (lastN a _).length + _ ≤ _
      rw [lastN_len]
      omega
theorem ok_Chain_cut (Z : Defs K mg) : FnOk P w K mg base CX0 4 Z.Chain_cut.f Z.Chain_cut.fd ["self", "row"] (spCut P w Z.CBook Z.CChain) := by
  refine Z.Chain_cut.F.ok sc_Chain_cut (fun vs H Q E h => ?_) (fun cdv A outer s H vs Q E hr h => ?_)
  · obtain ⟨H0, c, n, row, bk, x, S, a, b, T, r, rfl, _⟩ := h
    rfl
  · obtain ⟨H0, c, n, row, bk, x, S, a, b, T, r, rfl, C, hrow, qn, qo⟩ := h
    have few := C.few
    obtain ⟨dx0, hc0⟩ := C.c0
    obtain ⟨dx, td, fd, sd, as, bs, h1, h2, h3, h4, h5, h6, h7, h8, f1, f2, f3, ntf⟩ := C.ob
    have WH := C.W.but hc0 C.sb
    obtain ⟨bx, bd, bt, g1, _, _⟩ := WH.bk.ob
    refine ⟨_, (pss_cons (ps_set (i := 2) sc_Chain_cut.nd rfl (Or.inl rfl) (pe_slice sl_row (pv 1) (po_some (pe_un un_neg (pe_fld (pe_fld (pv 0) rfl) rfl))) po_none))
        (pss_cons (ps_if (pt_cmp (pc_nin rowS hr.units (pv 2) (pe_fld (pv 0) rfl)))
        (pss_cons (ps_fld (pv 0) (pe_nget rowS hr.units (pe_fld (pv 0) rfl) (pv 2) (fun _ _ => rfl)) rfl)
          (pss_cons (ps_fld (pv 0) (pe_op op_sub (pe_callB call_len_seq (by rfl) Z.b_len PySem.boot_len (pa_cons (pe_fld (pv 0) rfl) pa_nil)) (pe_fld (pv 0) rfl)) rfl)
          (pss_one (ps_ret (pv 1)))))
        pss_nil)
        (pss_cons (ps_nput rowS hr.units (pe_fld (pv 0) rfl) (pv 2) (pe_callB call_len_seq (by rfl) Z.b_len PySem.boot_len (pa_cons (pe_fld (pv 0) rfl) pa_nil)) rfl)
        (pss_cons (ps_expr (pe_bm PySem.F.plainAttrs_list PySem.F.slot_list_append PySem.F.type_list_append mt_append (pe_fld (pv 0) rfl) (pa_cons (pv 2) pa_nil)))
        (pss_cons (ps_expr (pe_bm PySem.F.plainAttrs_list PySem.F.slot_list_append PySem.F.type_list_append mt_append (pe_fld (pv 0) rfl) (pa_cons (pe_slice sl_row (pv 1) po_none (po_some (pe_op op_sub (pe_callB call_len_row (by rfl) Z.b_len PySem.boot_len (pa_cons (pv 1) pa_nil)) (pe_callB call_len_row (by rfl) Z.b_len PySem.boot_len (pa_cons (pv 2) pa_nil))))) pa_nil)))
        (pss_one (ps_ret (pe_call (ok_met_rows (P := P) (w := w) Z) (hr.mono (by decide)) (by rfl) Z.met_rows.g Z.met_rows.F.kp Z.met_rows.b .nil pass0 (pa_cons (pe_fld (pv 0) rfl) (pa_cons (pv 2) (pa_cons (pe_fld (pv 0) rfl) pa_nil))))))))))), ?_⟩
    -- tail = row[-self.book.kept_ahead :]
    refine ⟨_, rfl, _, rfl, c, Z.CChain, dx, _, _, rfl, h1, Z.Chain.cl, Z.Chain.a_book, F_Chain_book _ _ _ _ _ _ _, bk, Z.CBook, bx, _, _, rfl, g1, Z.Book.cl, Z.Book.a_kept_ahead, F_Book_kept_ahead _ _ _ _, a, rfl, _, rfl, row, _, rfl, hrow, fun t H1 s1 e1 => ?_⟩
    rw [cutR_last _ _ WH.bk.a1, ← tl_rw] at e1
    have sb1 : SameBut c H0 H1 := C.sb.same s1
    have k1 := s1 _ _ h1
    have n1 := h4.same s1
    -- if tail in self.seen
    refine ⟨_, rfl, _, rfl, c, Z.CChain, dx, _, _, rfl, k1, Z.Chain.cl, Z.Chain.a_seen, F_Chain_seen _ _ _ _ _ _ _, sd, t, tl T a b r n, _, rfl, rfl, n1.rd, e1, ?_⟩
    rcases tk_val (T := T) (a := a) (b := b) (r := r) (tl T a b r n) n with ⟨ev, en⟩ | ⟨j, hj, ej, ev⟩
    · rw [ev]
      refine ⟨false, rfl, iteF ?_⟩
      -- self.seen[tail] = len(self.tails)
      have hlen : (tk T a b r n).length < sizeLine := by
        unfold tk
        rw [List.length_map, List.length_range]
        exact Nat.lt_of_le_of_lt few (by decide)
      refine ⟨_, rfl, c, Z.CChain, dx, _, _, rfl, k1, Z.Chain.cl, Z.Chain.a_tails, F_Chain_tails _ _ _ _ _ _ _, td, _, rfl, .inl (SqL.of (s1 _ _ h2)), _, rfl, c, Z.CChain, dx, _, _, rfl, k1, Z.Chain.cl, Z.Chain.a_seen, F_Chain_seen _ _ _ _ _ _ _, _, rfl, sd, t, tl T a b r n, _, rfl, rfl, n1, e1, hlen, fun H2 hys n2 => ?_⟩
      obtain ⟨ys, eH⟩ := hys
      rw [putK_new _ ev, List.length_map, h5] at n2
      have n2' : NDict rowS P w H2 sd (tk T a b r (n + 1)) := by
        rw [tk_succ]
        exact n2
      obtain ⟨xs1, hsd1, _⟩ := id n1
      have kp12 : Keeps H1 H2 := by rw [eH]; exact Keeps.upd hsd1 rfl
      have ncs : c ≠ sd := ne_of k1 hsd1 (fun z => nomatch z)
      have nts : td ≠ sd := ne_of (s1 _ _ h2) hsd1 (fun z => nomatch z)
      have nfs : fd ≠ sd := ne_of (s1 _ _ h3) hsd1 (fun z => nomatch z)
      have nct : c ≠ td := ne_of k1 (s1 _ _ h2) (fun z => nomatch z)
      have ncf : c ≠ fd := ne_of k1 (s1 _ _ h3) (fun z => nomatch z)
      have sb2 : SameBut c H0 H2 := by rw [eH]; exact SameBut.upd_fresh sb1 f3
      have k2 : H2 c = some (.ins Z.CChain dx (F_Chain (.ref bk) (.ref x) (.ref td) (.ref fd) (.ref sd) .non .non)) := by rw [eH, upd_ne ncs]; exact k1
      have l2 : H2 td = some (.lst (List.map V.ref as)) := by rw [eH, upd_ne nts]; exact s1 _ _ h2
      have m2 : H2 fd = some (.lst (List.map V.ref bs)) := by rw [eH, upd_ne nfs]; exact s1 _ _ h3
      have r2 := hrow.same s1 |>.keep kp12
      have t2 := e1.keep kp12
      have as2 : ∀ (j : Nat) (t : Addr), as[j]? = some t → RowAt H2 t (tl T a b r j) := fun j t e => ((h7 j t e).same s1).keep kp12
      have bs2 : ∀ (j : Nat) (t : Addr), bs[j]? = some t → RowAt H2 t (fx T a b r j) := fun j t e => ((h8 j t e).same s1).keep kp12
      clear eH
      -- self.tails.append(tail)
      refine ⟨_, rfl, c, Z.CChain, dx, _, _, rfl, k2, Z.Chain.cl, Z.Chain.a_tails, F_Chain_tails _ _ _ _ _ _ _, .inl ⟨rfl, _, SqL.of l2⟩, _, rfl, td, _, _, rfl, rfl, l2, ?_, ?_⟩
      · rw [List.length_map, h5]
        exact Nat.lt_of_le_of_lt few (by decide)
      have el : List.map V.ref as ++ [V.ref t] = List.map V.ref (as ++ [t]) := by rw [List.map_append]; rfl
      rw [el]
      have kp23 : Keeps H2 (upd H2 td (.lst (List.map V.ref (as ++ [t])))) := Keeps.upd l2 rfl
      obtain ⟨xs2, hsd2, _⟩ := id n2'
      have n3 : NDict rowS P w (upd H2 td (.lst (List.map V.ref (as ++ [t])))) sd (tk T a b r (n + 1)) := n2'.keep (upd_ne nts.symm) kp23
      have sb3 : SameBut c H0 (upd H2 td (.lst (List.map V.ref (as ++ [t])))) := SameBut.upd_fresh sb2 f1
      have k3 := k2
      rw [← upd_ne (H := H2) (o := .lst (List.map V.ref (as ++ [t]))) nct] at k3
      have l3 : (upd H2 td (.lst (List.map V.ref (as ++ [t])))) td = some (.lst (List.map V.ref (as ++ [t]))) := upd_same
      have m3 := m2
      rw [← upd_ne (H := H2) (o := .lst (List.map V.ref (as ++ [t]))) ntf.symm] at m3
      have r3 := r2.keep kp23
      have t3 := t2.keep kp23
      have as3 : ∀ (j : Nat) (u : Addr), (as ++ [t])[j]? = some u → RowAt (upd H2 td (.lst (List.map V.ref (as ++ [t])))) u (tl T a b r j) := fun j u e => by
        rcases get_snoc h5 e with e' | ⟨e1, e2⟩
        · exact (as2 j u e').keep kp23
        · rw [e1, e2]
          exact t3
      have bs3 : ∀ (j : Nat) (t' : Addr), bs[j]? = some t' → RowAt (upd H2 td (.lst (List.map V.ref (as ++ [t])))) t' (fx T a b r j) := fun j t' e => (bs2 j t' e).keep kp23
      generalize upd H2 td (.lst (List.map V.ref (as ++ [t]))) = H3 at n3 sb3 k3 l3 m3 r3 t3 as3 bs3 ⊢
      -- self.fixed.append(row[: len(row) - len(tail)])
      refine ⟨_, rfl, c, Z.CChain, dx, _, _, rfl, k3, Z.Chain.cl, Z.Chain.a_fixed, F_Chain_fixed _ _ _ _ _ _ _, .inl ⟨rfl, _, SqL.of m3⟩, _, rfl, _, rfl, row, _, rfl, r3, _, rfl, t, _, rfl, t3, _, _, rfl, rfl, (rw_ T a b r n).length - (tl T a b r n).length, ?_, row, _, rfl, r3, fun u H4 s4 e4 => ?_⟩
      · rfl
      have e5 : RowAt H4 u (fx T a b r n) := by
        have : (((rw_ T a b r n).length : Nat) : Int) - (((tl T a b r n).length : Nat) : Int) = (((rw_ T a b r n).length - a : Nat) : Int) := by
          rw [tl_rw, lastN_len]
          omega
        rw [this, cutR_upto] at e4
        exact e4
      have m4 := s4 _ _ m3
      refine ⟨fd, _, _, rfl, rfl, m4, ?_, ?_⟩
      · rw [List.length_map, h6]
        exact Nat.lt_of_le_of_lt few (by decide)
      have el2 : List.map V.ref bs ++ [V.ref u] = List.map V.ref (bs ++ [u]) := by rw [List.map_append]; rfl
      rw [el2]
      have kp45 : Keeps H4 (upd H4 fd (.lst (List.map V.ref (bs ++ [u])))) := Keeps.upd m4 rfl
      have n5 : NDict rowS P w (upd H4 fd (.lst (List.map V.ref (bs ++ [u])))) sd (tk T a b r (n + 1)) := (n3.same s4).keep (upd_ne nfs.symm) kp45
      have sb5 : SameBut c H0 (upd H4 fd (.lst (List.map V.ref (bs ++ [u])))) := SameBut.upd_fresh (sb3.same s4) f2
      have k5 := s4 _ _ k3
      rw [← upd_ne (H := H4) (o := .lst (List.map V.ref (bs ++ [u]))) ncf] at k5
      have m5 : (upd H4 fd (.lst (List.map V.ref (bs ++ [u])))) fd = some (.lst (List.map V.ref (bs ++ [u]))) := upd_same
      have l5 := s4 _ _ l3
      rw [← upd_ne (H := H4) (o := .lst (List.map V.ref (bs ++ [u]))) ntf] at l5
      have t5 := (t3.same s4).keep kp45
      have as5 : ∀ (j : Nat) (t' : Addr), (as ++ [t])[j]? = some t' → RowAt (upd H4 fd (.lst (List.map V.ref (bs ++ [u])))) t' (tl T a b r j) := fun j t' e => ((as3 j t' e).same s4).keep kp45
      have bs5 : ∀ (j : Nat) (t' : Addr), (bs ++ [u])[j]? = some t' → RowAt (upd H4 fd (.lst (List.map V.ref (bs ++ [u])))) t' (fx T a b r j) := fun j t' e => by
        rcases get_snoc h6 e with e' | ⟨e1, e2⟩
        · exact ((bs3 j t' e').same s4).keep kp45
        · rw [e1, e2]
          exact e5.keep kp45
      generalize upd H4 fd (.lst (List.map V.ref (bs ++ [u]))) = H5 at n5 sb5 k5 l5 m5 t5 as5 bs5 ⊢
      have W5 := C.W.but hc0 sb5
      -- return met_rows(self.book, tail, self.word)
      refine ⟨_, rfl, c, Z.CChain, dx, _, _, rfl, k5, Z.Chain.cl, Z.Chain.a_book, F_Chain_book _ _ _ _ _ _ _, _, rfl, _, rfl, c, Z.CChain, dx, _, _, rfl, k5, Z.Chain.cl, Z.Chain.a_word, F_Chain_word _ _ _ _ _ _ _, bk, t, x, tl T a b r n, r, S, a, b, T, rfl, W5.bk, t5, W5.row, ?_, by have := W5.w2; omega, fun q0 H6 s6 e6 => ?_⟩
      · rw [tl_len W5.bk.ok W5.w1]
        have := W5.bk.a4
        omega
      refine qn H6 q0 ⟨C.W, ⟨dx0, hc0⟩, sb5.same s6, ⟨dx, td, fd, sd, as ++ [t], bs ++ [u], s6 _ _ k5, s6 _ _ l5, s6 _ _ m5, n5.same s6, by rw [List.length_append, h5]; rfl, by rw [List.length_append, h6]; rfl, fun j t' e => (as5 j t' e).same s6, fun j t' e => (bs5 j t' e).same s6, f1, f2, f3, ntf⟩, ?_⟩ e6
      rw [List.range_succ, List.map_append, List.nodup_append]
      refine ⟨C.nd, List.nodup_cons.mpr ⟨List.not_mem_nil, List.nodup_nil⟩, fun y hy z hz e => ?_⟩
      obtain ⟨j, hj, ej⟩ := List.mem_map.mp hy
      have ez : z = tl T a b r n := List.mem_singleton.mp hz
      exact en j (List.mem_range.mp hj) (by rw [ej, e, ez])
    · rw [ev]
      refine ⟨true, rfl, iteT ?_⟩
      -- self.before = self.seen[tail]
      refine ⟨_, rfl, c, Z.CChain, dx, _, _, rfl, k1, Z.Chain.cl, Z.Chain.a_seen, F_Chain_seen _ _ _ _ _ _ _, _, rfl, sd, t, tl T a b r n, _, _, rfl, rfl, n1.rd, e1, ev, _, rfl, c, Z.CChain, dx, _, rfl, k1, Z.Chain.cl, Z.Chain.a_before, (by rw [F_Chain_len]; decide), ?_⟩
      rw [F_Chain_put_before]
      -- self.ring = len(self.tails) - self.before
      have nct : td ≠ c := ne_of (s1 _ _ h2) k1 (fun z => nomatch z)
      have ncf : fd ≠ c := ne_of (s1 _ _ h3) k1 (fun z => nomatch z)
      refine ⟨_, rfl, c, Z.CChain, dx, _, _, rfl, upd_same, Z.Chain.cl, Z.Chain.a_tails, F_Chain_tails _ _ _ _ _ _ _, td, _, rfl, .inl (SqL.of (by rw [upd_ne nct]; exact s1 _ _ h2)), _, rfl, c, Z.CChain, dx, _, _, rfl, upd_same, Z.Chain.cl, Z.Chain.a_before, F_Chain_before _ _ _ _ _ _ _, _, _, rfl, rfl, _, rfl, c, Z.CChain, dx, _, rfl, upd_same, Z.Chain.cl, Z.Chain.a_ring, (by rw [F_Chain_len]; decide), ?_⟩
      rw [F_Chain_put_ring, upd_upd]
      have ering : (V.int ((((List.map V.ref as).length : Nat) : Int) - Int.ofNat j)) = V.int (((n - j : Nat) : Nat) : Int) := by
        rw [List.length_map, h5]
        have : ((n : Nat) : Int) - Int.ofNat j = ((n - j : Nat) : Int) := by
          show (n : Int) - (j : Int) = _
          omega
        rw [this]
      refine ⟨_, rfl, ?_⟩
      have kp : Keeps H1 (upd H1 c (.ins Z.CChain dx (F_Chain (.ref bk) (.ref x) (.ref td) (.ref fd) (.ref sd) (.int (Int.ofNat j)) (.int ((((List.map V.ref as).length : Nat) : Int) - Int.ofNat j))))) := Keeps.upd k1 rfl
      have sbF : SameBut c H0 (upd H1 c (.ins Z.CChain dx (F_Chain (.ref bk) (.ref x) (.ref td) (.ref fd) (.ref sd) (.int (Int.ofNat j)) (.int ((((List.map V.ref as).length : Nat) : Int) - Int.ofNat j))))) := SameBut.upd_at sb1
      refine qo _ j hj sbF ⟨C.W.but hc0 sbF, ⟨dx, td, fd, sd, as, bs, ?_, by rw [upd_ne nct]; exact s1 _ _ h2, by rw [upd_ne ncf]; exact s1 _ _ h3, by omega, by omega, fun i t' e => ((h7 i t' e).same s1).keep kp, fun i t' e => ((h8 i t' e).same s1).keep kp⟩, by omega, by omega, by rw [show j + (n - j) = n by omega]; exact ej.symm⟩
      refine upd_same.trans ?_
      show some (HO.ins Z.CChain dx (F_Chain (.ref bk) (.ref x) (.ref td) (.ref fd) (.ref sd) (.int (Int.ofNat j)) (V.int ((((List.map V.ref as).length : Nat) : Int) - Int.ofNat j)))) = _
      rw [ering]
      rfl
/-! ### a chain made -/
theorem chstep {c t : Addr} {H1 : Hp} {o o' u : HO} (h : H1 c = some o) (ht : H1 t = none) : SameBut c H1 (L2.upd (L2.upd H1 t u) c o') ∧ (L2.upd (L2.upd H1 t u) c o') c = some o' ∧ (L2.upd (L2.upd H1 t u) c o') t = some u ∧ t ≠ c := by
  have n : t ≠ c := (ne_of_none h ht).symm
  refine ⟨fun b x e nb => ?_, upd_same, ?_, n⟩
  · rw [upd_ne nb]
    exact same_new ht b x e
  · rw [upd_ne n]
    exact upd_same
theorem SameBut.back {c t : Addr} {H H' : Hp} (s : SameBut c H H') (n : t ≠ c) (h : H' t = none) : H t = none := by
  cases q : H t with
  | none => rfl
  | some o => rw [s _ _ q n] at h; cases h
def spChainInit (P : Program) (w : World) (CB CC : Addr) : Sp := fun vs H Q _ => ∃ c dx bk x S a b T r, vs = [.ref c, .ref bk, .ref x] ∧ H c = some (.ins CC dx []) ∧ WordAt P w CB H bk x S a b T r ∧
  ∀ H' i p, SameBut c H H' → ChainAt P w CB CC H' c bk x S a b T r i p → Q .non H'
theorem ok_Chain_init (Z : Defs K mg) : FnOk P w K mg base CX0 5 Z.Chain_init.f Z.Chain_init.fd ["self", "book", "word"] (spChainInit P w Z.CBook Z.CChain) := by
  refine Z.Chain_init.F.ok sc_Chain_init (fun vs H Q E h => ?_) (fun cdv A outer s H vs Q E hr h => ?_)
  · obtain ⟨c, dx, bk, x, S, a, b, T, r, rfl, _⟩ := h
    rfl
  · obtain ⟨c, dx, bk, x, S, a, b, T, r, rfl, hc, W, q⟩ := h
    refine ⟨_, (pss_cons (ps_fld (pv 0) (pv 1) rfl)
        (pss_cons (ps_fld (pv 0) (pv 2) rfl)
        (pss_cons (ps_fld (pv 0) (pe_lst pa_nil) rfl)
        (pss_cons (ps_fld (pv 0) (pe_lst pa_nil) rfl)
        (pss_cons (ps_fld (pv 0) (pe_nnew rowS) rfl)
        (pss_cons (ps_fld (pv 0) pe_non rfl)
        (pss_cons (ps_fld (pv 0) pe_non rfl)
        (pss_cons (ps_set (i := 3) sc_Chain_init.nd rfl (Or.inl rfl) (pv 2))
        (pss_one (ps_while PassesOwn.never (pt_cmpR op_isN (pe_fld (pv 0) rfl) pe_non (nomark _))
        (pss_one (ps_set (i := 3) sc_Chain_init.nd rfl (Or.inl rfl) (pe_meth (pv 0) Z.Chain.cl Z.Chain_cut.m (ok_Chain_cut (P := P) (w := w) Z) (hr.mono (by decide)) Z.Chain_cut.b .nil pass0 (pa_cons (pv 3) pa_nil)))))))))))))), ?_⟩
    -- self.book = book; self.word = word
    refine ⟨_, rfl, _, rfl, c, Z.CChain, dx, _, rfl, hc, Z.Chain.cl, Z.Chain.a_book, (by show 0 < 1000; decide), ?_⟩
    refine ⟨_, rfl, _, rfl, c, Z.CChain, dx, _, rfl, upd_same, Z.Chain.cl, Z.Chain.a_word, (by show 1 < 1000; decide), ?_⟩
    rw [upd_upd]
    generalize hH1 : upd H c (.ins Z.CChain dx (putF "word" (.ref x) (putF "book" (.ref bk) []))) = H1
    have c1 : H1 c = some (.ins Z.CChain dx (putF "word" (.ref x) (putF "book" (.ref bk) []))) := by rw [← hH1]; exact upd_same
    have sb1 : SameBut c H H1 := by rw [← hH1]; exact SameBut.upd
    -- self.tails = []
    refine ⟨Nat.zero_le _, fun td htd => ?_⟩
    refine ⟨_, rfl, c, Z.CChain, dx, _, rfl, same_new htd _ _ c1, Z.Chain.cl, Z.Chain.a_tails, (by show 2 < 1000; decide), ?_⟩
    obtain ⟨sb2, c2, d2, ntd⟩ := chstep (o' := .ins Z.CChain dx (putF "tails" (.ref td) (putF "word" (.ref x) (putF "book" (.ref bk) [])))) (u := .lst []) c1 htd
    generalize upd (upd H1 td (.lst [])) c (.ins Z.CChain dx (putF "tails" (.ref td) (putF "word" (.ref x) (putF "book" (.ref bk) [])))) = H2 at sb2 c2 d2 ⊢
    -- self.fixed = []
    refine ⟨Nat.zero_le _, fun fd hfd => ?_⟩
    refine ⟨_, rfl, c, Z.CChain, dx, _, rfl, same_new hfd _ _ c2, Z.Chain.cl, Z.Chain.a_fixed, (by show 3 < 1000; decide), ?_⟩
    obtain ⟨sb3, c3, d3, nfd⟩ := chstep (o' := .ins Z.CChain dx (putF "fixed" (.ref fd) (putF "tails" (.ref td) (putF "word" (.ref x) (putF "book" (.ref bk) []))))) (u := .lst []) c2 hfd
    generalize upd (upd H2 fd (.lst [])) c (.ins Z.CChain dx (putF "fixed" (.ref fd) (putF "tails" (.ref td) (putF "word" (.ref x) (putF "book" (.ref bk) []))))) = H3 at sb3 c3 d3 ⊢
    -- self.seen = {}
    refine fun sd hsd => ?_
    refine ⟨_, rfl, c, Z.CChain, dx, _, rfl, same_new hsd _ _ c3, Z.Chain.cl, Z.Chain.a_seen, (by show 4 < 1000; decide), ?_⟩
    obtain ⟨sb4, c4, d4, nsd⟩ := chstep (o' := .ins Z.CChain dx (putF "seen" (.ref sd) (putF "fixed" (.ref fd) (putF "tails" (.ref td) (putF "word" (.ref x) (putF "book" (.ref bk) [])))))) (u := dN rowS P w sd []) c3 hsd
    refine ⟨_, rfl, c, Z.CChain, dx, _, rfl, upd_same, Z.Chain.cl, Z.Chain.a_before, (by show 5 < 1000; decide), ?_⟩
    refine ⟨_, rfl, c, Z.CChain, dx, _, rfl, upd_same, Z.Chain.cl, Z.Chain.a_ring, (by show 6 < 1000; decide), ?_⟩
    rw [upd_upd, upd_upd]
    obtain ⟨sb4, c4, d4, nsd⟩ := chstep (o' := .ins Z.CChain dx (F_Chain (.ref bk) (.ref x) (.ref td) (.ref fd) (.ref sd) .non .non)) (u := dN rowS P w sd []) c3 hsd
    have sbA : SameBut c H (upd (upd H3 sd (dN rowS P w sd [])) c (.ins Z.CChain dx (F_Chain (.ref bk) (.ref x) (.ref td) (.ref fd) (.ref sd) .non .non))) := ((sb1.trans sb2).trans sb3).trans sb4
    have nfs : fd ≠ sd := fun z => by rw [← z, d3] at hsd; cases hsd
    have nts : td ≠ sd := fun z => by
      rw [← z, sb3 _ _ d2 ntd] at hsd
      cases hsd
    have ntf : td ≠ fd := fun z => by rw [← z, d2] at hfd; cases hfd
    have start : ChainW P w Z.CBook Z.CChain H (upd (upd H3 sd (dN rowS P w sd [])) c (.ins Z.CChain dx (F_Chain (.ref bk) (.ref x) (.ref td) (.ref fd) (.ref sd) .non .non))) c bk x S a b T r 0 :=
      ⟨W, ⟨dx, hc⟩, sbA, ⟨dx, td, fd, sd, [], [], c4, sb4 _ _ (sb3 _ _ d2 ntd) ntd, sb4 _ _ d3 nfd, ⟨[], d4, .nil, List.nodup_nil, Nat.zero_le _⟩, rfl, rfl, fun j t e => (by cases e), fun j t e => (by cases e), sb1.back ntd htd, (sb1.trans sb2).back nfd hfd, ((sb1.trans sb2).trans sb3).back nsd hsd, ntf⟩, List.nodup_nil⟩
    refine ⟨_, rfl, fun m σ H' => (∃ n row, σ = [some (.ref c), some (.ref bk), some (.ref x), some (.ref row)] ∧ ChainW P w Z.CBook Z.CChain H H' c bk x S a b T r n ∧ RowAt H' row (rw_ T a b r n) ∧ m + n = 7000) ∨ (∃ row i p, σ = [some (.ref c), some (.ref bk), some (.ref x), some (.ref row)] ∧ SameBut c H H' ∧ ChainAt P w Z.CBook Z.CChain H' c bk x S a b T r i p), ⟨7000, .inl ⟨0, x, rfl, start, start.W.row.but hc rfl sbA, rfl⟩⟩, ?_⟩
    rintro m σ H' (⟨n, row, rfl, C, hrow, hm⟩ | ⟨row, i, p, rfl, sb, C⟩)
    · obtain ⟨dx', td', fd', sd', as, bs, h1, _⟩ := id C.ob
      refine ⟨_, rfl, c, Z.CChain, dx', _, _, rfl, h1, Z.Chain.cl, Z.Chain.a_ring, F_Chain_ring _ _ _ _ _ _ _, rfl, true, rfl, iteT ?_⟩
      have few := C.few
      refine ⟨fun σ' H'' => ∃ m', m' < m ∧ _, fun σ' H'' h => h, ?_⟩
      refine ⟨_, rfl, c, dx', _, rfl, h1, F_Chain_no_cut _ _ _ _ _ _ _, _, rfl, H, c, n, row, bk, x, S, a, b, T, r, rfl, C, hrow, fun H2 q2 C2 e2 => ?_, fun H2 j hj sb2 C2 => ?_⟩
      · exact ⟨m - 1, by omega, .inl ⟨n + 1, q2, rfl, C2, e2, by omega⟩⟩
      · exact ⟨0, by omega, .inr ⟨row, j, n - j, rfl, sb2, C2⟩⟩
    · obtain ⟨dx', td', fd', sd', as, bs, h1, _⟩ := id C.ob
      refine ⟨_, rfl, c, Z.CChain, dx', _, _, rfl, h1, Z.Chain.cl, Z.Chain.a_ring, F_Chain_ring _ _ _ _ _ _ _, rfl, false, rfl, iteF ?_⟩
      exact q H' i p sb C
end
end K98
/-! What is asked of chains. -/
namespace K98
open PySem PySem.Spec PyProof.Rows L2
theorem min_ite3 (n m : Nat) : (if Int.ofNat m + 1 < Int.ofNat (n + 1) then Int.ofNat m + 1 else Int.ofNat (n + 1)) = Int.ofNat (min n m) + 1 := by
  show (if (m : Int) + 1 < ((n + 1 : Nat) : Int) then (m : Int) + 1 else ((n + 1 : Nat) : Int)) = ((min n m : Nat) : Int) + 1
  split <;> omega
theorem max_ite (i f : Nat) : (if Int.ofNat f > Int.ofNat i then Int.ofNat f else Int.ofNat i) = Int.ofNat (max i f) := by
  show (if (f : Int) > (i : Int) then (f : Int) else (i : Int)) = ((max i f : Nat) : Int)
  split <;> omega
theorem made_same {c dx : Addr} {H : Hp} {u o : HO} (hc : H c = none) (hd : H dx = none) (n : dx ≠ c) : Same H (L2.upd (L2.upd H dx u) c o) :=
  (same_new hd).trans (same_new (by rw [upd_ne n.symm]; exact hc))
section
variable {P : Program} {w : World} {K : PySem.W.Frag} {mg : PySem.Str → Option Value} {base : Heap}
def spCheckChain (P : Program) (w : World) (CB : Addr) : Sp := fun vs H Q _ => ∃ bk x n S a b T r, vs = [.ref bk, .ref x, .int (Int.ofNat (n + 1))] ∧ WordAt P w CB H bk x S a b T r ∧ n + 1 ≤ 10 ^ 30 ∧ ∀ H', Same H H' → Q .non H'
theorem ok_check_chain (Z : Defs K mg) : FnOk P w K mg base CX0 7 Z.check_chain.f Z.check_chain.fd ["book", "word", "times"] (spCheckChain P w Z.CBook) := by
  refine Z.check_chain.F.ok sc_check_chain (fun vs H Q E h => ?_) (fun cdv A outer s H vs Q E hr h => ?_)
  · obtain ⟨bk, x, n, S, a, b, T, r, rfl, _⟩ := h
    rfl
  · obtain ⟨bk, x, n, S, a, b, T, r, rfl, W, hn, q⟩ := h
    refine ⟨_, (pss_cons (ps_expr (pe_call (ok_check_word (P := P) (w := w) Z) (hr.mono (by decide)) (by rfl) Z.check_word.g Z.check_word.F.kp Z.check_word.b .nil pass0 (pa_cons (pv 0) (pa_cons (pv 1) pa_nil))))
        (pss_one (ps_expr (pe_call (ok_check_number (P := P) (w := w) Z) (hr.mono (by decide)) (by rfl) Z.check_number.g Z.check_number.F.kp Z.check_number.b .nil pass0 (pa_cons (pv 2) (pa_cons pe_int (pa_cons (pe_glob (v := .int 1000000000000000000000000000000) rfl Z.c_MOST_TIMES.choose_spec ⟨_, rfl⟩) pa_nil))))))), ?_⟩
    refine ⟨_, rfl, _, rfl, bk, x, S, a, b, T, r, rfl, W, fun H1 s1 => ?_⟩
    refine ⟨_, rfl, Int.ofNat (n + 1), 1, 10 ^ 30, rfl, ?_, ?_, q H1 s1⟩
    · show (1 : Int) ≤ ((n + 1 : Nat) : Int)
      omega
    · exact Int.ofNat_le.mpr hn
def spFirst (P : Program) (w : World) (CB : Addr) : Sp := fun vs H Q _ => ∃ bk x n S a b T r, vs = [.ref bk, .ref x, .int (Int.ofNat (n + 1))] ∧ WordAt P w CB H bk x S a b T r ∧ ∀ H' t, Same H H' → RowAt H' t ((chn T a b r n).take b) → Q (.ref t) H'
theorem ok_first_row (Z : Defs K mg) : FnOk P w K mg base CX0 4 Z.first_row.f Z.first_row.fd ["book", "word", "times"] (spFirst P w Z.CBook) := by
  refine Z.first_row.F.ok sc_first_row (fun vs H Q E h => ?_) (fun cdv A outer s H vs Q E hr h => ?_)
  · obtain ⟨bk, x, n, S, a, b, T, r, rfl, _⟩ := h
    rfl
  · obtain ⟨bk, x, n, S, a, b, T, r, rfl, W, q⟩ := h
    obtain ⟨bx, bd, bt, g1, _, _⟩ := W.bk.ob
    refine ⟨_, (pss_cons (ps_set (i := 3) sc_first_row.nd rfl (Or.inl rfl) (pe_callB (call_min2 rfl) (by rfl) Z.b_min (by decide +kernel) (pa_cons (pv 2) (pa_cons (pe_op op_add (pe_meth0 (pv 0) Z.Book.cl Z.Book_reach.m (ok_Book_reach (P := P) (w := w) Z) (hr.mono (by decide)) Z.Book_reach.b .nil pass0) pe_int) pa_nil))))
        (pss_cons (ps_set (i := 4) sc_first_row.nd rfl (Or.inl rfl) (pv 1))
        (pss_cons (ps_for PassesOwn.never rfl (pi_range1 rfl Z.b_range (pa_cons (pe_op op_sub (pv 3) pe_int) pa_nil)) (pg_name (i := 5) sc_first_row.nd rfl (Or.inl rfl))
        (pss_one (ps_set (i := 4) sc_first_row.nd rfl (Or.inl rfl) (pe_call (ok_met_rows (P := P) (w := w) Z) (hr.mono (by decide)) (by rfl) Z.met_rows.g Z.met_rows.F.kp Z.met_rows.b .nil pass0 (pa_cons (pv 0) (pa_cons (pv 4) (pa_cons (pv 1) pa_nil)))))))
        (pss_one (ps_ret (pe_slice sl_row (pv 4) po_none (po_some (pe_fld (pv 0) rfl)))))))), ?_⟩
    refine ⟨_, rfl, _, rfl, bk, bx, _, rfl, g1, F_Book_no_reach _ _ _ _, bk, S, a, b, T, rfl, W.bk, _, _, rfl, rfl, Int.ofNat (n + 1), Int.ofNat (a + b) + 1, rfl, ?_⟩
    rw [min_ite3]
    generalize hm : min n (a + b) = m
    have m8 : m ≤ 8 := by
      have := W.bk.a4
      have := W.bk.b4
      omega
    refine ⟨_, rfl, _, rfl, _, _, rfl, rfl, _, rfl, ?_, ?_, ?_⟩
    · show -(2 ^ 62) ≤ (m : Int) + 1 - 1
      omega
    · show (m : Int) + 1 - 1 < 2 ^ 62
      omega
    have em : (Int.ofNat m + 1 - 1).toNat = m := by
      show ((m : Int) + 1 - 1).toNat = m
      omega
    refine for_range (lo := 0) (n := (Int.ofNat m + 1 - 1).toNat) (fun j σ H' => ∃ v3 v5 t, σ = [some (.ref bk), some (.ref x), some (.int (Int.ofNat (n + 1))), v3, some (.ref t), v5] ∧ Same H H' ∧ RowAt H' t (chn T a b r j)) ⟨_, none, x, rfl, Same.refl H, W.row⟩ ?_ ?_
    · rintro j σ H' hj ⟨v3, v5, t, rfl, sm, ht⟩
      have W' := W.same sm
      refine ⟨_, rfl, _, rfl, _, rfl, bk, t, x, chn T a b r j, r, S, a, b, T, rfl, W'.bk, ht, W'.row, ?_, by have := W.w2; omega, fun u H1 s1 e1 => ?_⟩
      · rw [em] at hj
        rw [chn_len W.bk.ok]
        have := W.w2
        have h9 : (j + 1) * r.length ≤ 9 * 200 := Nat.mul_le_mul (by omega) this
        omega
      · exact ⟨v3, some (.int (0 + (j : Int))), u, rfl, sm.trans s1, e1⟩
    · rintro σ H' ⟨v3, v5, t, rfl, sm, ht⟩
      refine ⟨_, rfl, _, rfl, bk, Z.CBook, bx, _, _, rfl, sm _ _ g1, Z.Book.cl, Z.Book.a_kept_behind, F_Book_kept_behind _ _ _ _, (b : Int), rfl, t, _, rfl, ht, fun u H1 s1 e1 => ?_⟩
      rw [cutR_upto, em, ← hm, chn_first' W.bk.ok W.w1] at e1
      exact q H1 u (sm.trans s1) e1
def spChainEnds (P : Program) (w : World) (CB : Addr) : Sp := fun vs H Q _ => ∃ bk x n S a b T r, vs = [.ref bk, .ref x, .int (Int.ofNat (n + 1))] ∧ WordAt P w CB H bk x S a b T r ∧ n + 1 ≤ 10 ^ 30 ∧ ∀ H' t, Same H H' → PairAt H' t (ends a b (chn T a b r n)) → Q (.ref t) H'
theorem nat_pred (n : Nat) : Int.ofNat (n + 1) - 1 = Int.ofNat n := by
  show ((n + 1 : Nat) : Int) - 1 = (n : Int)
  omega
theorem ok_chain_ends (Z : Defs K mg) : FnOk P w K mg base CX0 8 Z.chain_ends.f Z.chain_ends.fd ["book", "word", "times"] (spChainEnds P w Z.CBook) := by
  refine Z.chain_ends.F.ok sc_chain_ends (fun vs H Q E h => ?_) (fun cdv A outer s H vs Q E hr h => ?_)
  · obtain ⟨bk, x, n, S, a, b, T, r, rfl, _⟩ := h
    rfl
  · obtain ⟨bk, x, n, S, a, b, T, r, rfl, W, hn, q⟩ := h
    refine ⟨_, (pss_cons (ps_expr (pe_call (ok_check_chain (P := P) (w := w) Z) (hr.mono (by decide)) (by rfl) Z.check_chain.g Z.check_chain.F.kp Z.check_chain.b .nil pass0 (pa_cons (pv 0) (pa_cons (pv 1) (pa_cons (pv 2) pa_nil)))))
        (pss_one (ps_ret (pe_pairR (pe_call (ok_first_row (P := P) (w := w) Z) (hr.mono (by decide)) (by rfl) Z.first_row.g Z.first_row.F.kp Z.first_row.b .nil pass0 (pa_cons (pv 0) (pa_cons (pv 1) (pa_cons (pv 2) pa_nil)))) (pe_meth (pe_make Z.Chain.M (ok_Chain_init (P := P) (w := w) Z) (hr.mono (by decide)) (by rfl) Z.Chain.gC Z.Chain_init.b .nil pass0 (pa_cons (pv 0) (pa_cons (pv 1) pa_nil))) Z.Chain.cl Z.Chain_tail.m (ok_Chain_tail (P := P) (w := w) Z) (hr.mono (by decide)) Z.Chain_tail.b .nil pass0 (pa_cons (pe_op op_sub (pv 2) pe_int) pa_nil)))))), ?_⟩
    refine ⟨_, rfl, _, rfl, _, rfl, bk, x, n, S, a, b, T, r, rfl, W, hn, fun H1 s1 => ?_⟩
    refine ⟨_, rfl, _, rfl, _, rfl, bk, x, n, S, a, b, T, r, rfl, W.same s1, fun H2 t s2 e2 => ?_⟩
    refine ⟨_, rfl, _, rfl, fun c dx0 hc hd nd => ⟨c, dx0, bk, x, S, a, b, T, r, rfl, upd_same, (W.same (s1.trans s2)).same (made_same hc hd nd), fun H3 i p sb C => ⟨rfl, ?_⟩⟩⟩
    have s3 := Same.but_fresh (made_same hc hd nd) sb hc
    obtain ⟨dx, td, fd, sd, as, bs, h1, _⟩ := C.ob
    refine ⟨c, dx, _, rfl, h1, F_Chain_no_tail _ _ _ _ _ _ _, _, rfl, _, _, rfl, rfl, c, n, bk, x, S, a, b, T, r, i, p, ?_, C, fun u hu => ?_⟩
    · show [V.ref c, V.int (Int.ofNat (n + 1) - 1)] = [V.ref c, V.int (Int.ofNat n)]
      rw [nat_pred]
    rw [← chn_tl W.bk.ok W.w1] at hu
    exact ⟨t, u, _, _, rfl, e2.same s3, hu, fun v H4 s4 e4 => q H4 v (((s1.trans s2).trans s3).trans s4) e4⟩
def spChainSound (P : Program) (w : World) (CB : Addr) : Sp := fun vs H Q _ => ∃ bk x n g S a b T r, vs = [.ref bk, .ref x, .int (Int.ofNat (n + 1)), .int (Int.ofNat g)] ∧ WordAt P w CB H bk x S a b T r ∧ n + 1 ≤ 10 ^ 30 ∧ g < (n + 1) * r.length ∧ ∀ H' v, Same H H' → (chn T a b r n)[g]? = some v → Q (.int v) H'
theorem ok_chain_sound (Z : Defs K mg) : FnOk P w K mg base CX0 8 Z.chain_sound.f Z.chain_sound.fd ["book", "word", "times", "place"] (spChainSound P w Z.CBook) := by
  refine Z.chain_sound.F.ok sc_chain_sound (fun vs H Q E h => ?_) (fun cdv A outer s H vs Q E hr h => ?_)
  · obtain ⟨bk, x, n, g, S, a, b, T, r, rfl, _⟩ := h
    rfl
  · obtain ⟨bk, x, n, g, S, a, b, T, r, rfl, W, hn, hg, q⟩ := h
    refine ⟨_, (pss_cons (ps_expr (pe_call (ok_check_chain (P := P) (w := w) Z) (hr.mono (by decide)) (by rfl) Z.check_chain.g Z.check_chain.F.kp Z.check_chain.b .nil pass0 (pa_cons (pv 0) (pa_cons (pv 1) (pa_cons (pv 2) pa_nil)))))
        (pss_cons (ps_if (pt_not (pt_val (pe_call (ok_is_between (P := P) (w := w) Z) (hr.mono (by decide)) (by rfl) Z.is_between.g Z.is_between.F.kp Z.is_between.b .nil pass0 (pa_cons (pv 3) (pa_cons pe_int (pa_cons (pe_op op_sub (pe_op op_mul (pv 2) (pe_callB call_len_row (by rfl) Z.b_len PySem.boot_len (pa_cons (pv 1) pa_nil))) pe_int) pa_nil))))))
        (pss_one ps_never)
        pss_nil)
        (pss_one (ps_ret (pe_meth (pe_make Z.Chain.M (ok_Chain_init (P := P) (w := w) Z) (hr.mono (by decide)) (by rfl) Z.Chain.gC Z.Chain_init.b .nil pass0 (pa_cons (pv 0) (pa_cons (pv 1) pa_nil))) Z.Chain.cl Z.Chain_sound.m (ok_Chain_sound (P := P) (w := w) Z) (hr.mono (by decide)) Z.Chain_sound.b .nil pass0 (pa_cons (pv 2) (pa_cons (pv 3) pa_nil))))))), ?_⟩
    refine ⟨_, rfl, _, rfl, _, rfl, bk, x, n, S, a, b, T, r, rfl, W, hn, fun H1 s1 => ?_⟩
    refine ⟨_, rfl, _, rfl, _, rfl, x, r, rfl, W.row.same s1, _, _, rfl, rfl, .inr (by have := W.w2; omega), _, _, rfl, rfl, Int.ofNat g, 0, Int.ofNat (n + 1) * (r.length : Int) - 1, rfl, ?_⟩
    have hb : decide ((0 : Int) ≤ Int.ofNat g ∧ Int.ofNat g ≤ Int.ofNat (n + 1) * (r.length : Int) - 1) = true := by
      refine decide_eq_true ⟨Int.natCast_nonneg g, ?_⟩
      show (g : Int) ≤ ((n + 1 : Nat) : Int) * (r.length : Int) - 1
      rw [← Int.natCast_mul]
      omega
    rw [hb]
    refine ⟨true, rfl, iteF ?_⟩
    refine ⟨_, rfl, _, rfl, fun c dx0 hc hd nd => ⟨c, dx0, bk, x, S, a, b, T, r, rfl, upd_same, (W.same s1).same (made_same hc hd nd), fun H3 i p sb C => ⟨rfl, ?_⟩⟩⟩
    have s3 := Same.but_fresh (made_same hc hd nd) sb hc
    obtain ⟨dx, td, fd, sd, as, bs, h1, _⟩ := C.ob
    exact ⟨c, dx, _, rfl, h1, F_Chain_no_sound _ _ _ _ _ _ _, _, rfl, _, rfl, c, n, g, bk, x, S, a, b, T, r, i, p, rfl, C, hg, fun v H4 s4 e4 => q H4 v ((s1.trans s3).trans s4) e4⟩
def spChainCount (P : Program) (w : World) (CB : Addr) : Sp := fun vs H Q _ => ∃ bk x n sd S a b T r, vs = [.ref bk, .ref x, .int (Int.ofNat (n + 1)), .int (Int.ofNat sd)] ∧ WordAt P w CB H bk x S a b T r ∧ n + 1 ≤ 10 ^ 30 ∧ sd < S ∧ ∀ H', Same H H' → Q (.int ((chn T a b r n).count (Int.ofNat sd) : Nat)) H'
theorem ok_chain_count (Z : Defs K mg) : FnOk P w K mg base CX0 8 Z.chain_count.f Z.chain_count.fd ["book", "word", "times", "sound"] (spChainCount P w Z.CBook) := by
  refine Z.chain_count.F.ok sc_chain_count (fun vs H Q E h => ?_) (fun cdv A outer s H vs Q E hr h => ?_)
  · obtain ⟨bk, x, n, sd, S, a, b, T, r, rfl, _⟩ := h
    rfl
  · obtain ⟨bk, x, n, sd, S, a, b, T, r, rfl, W, hn, hs, q⟩ := h
    refine ⟨_, (pss_cons (ps_expr (pe_call (ok_check_chain (P := P) (w := w) Z) (hr.mono (by decide)) (by rfl) Z.check_chain.g Z.check_chain.F.kp Z.check_chain.b .nil pass0 (pa_cons (pv 0) (pa_cons (pv 1) (pa_cons (pv 2) pa_nil)))))
        (pss_cons (ps_expr (pe_call (ok_check_number (P := P) (w := w) Z) (hr.mono (by decide)) (by rfl) Z.check_number.g Z.check_number.F.kp Z.check_number.b .nil pass0 (pa_cons (pv 3) (pa_cons pe_int (pa_cons (pe_op op_sub (pe_fld (pv 0) rfl) pe_int) pa_nil)))))
        (pss_one (ps_ret (pe_meth (pe_make Z.Chain.M (ok_Chain_init (P := P) (w := w) Z) (hr.mono (by decide)) (by rfl) Z.Chain.gC Z.Chain_init.b .nil pass0 (pa_cons (pv 0) (pa_cons (pv 1) pa_nil))) Z.Chain.cl Z.Chain_count.m (ok_Chain_count (P := P) (w := w) Z) (hr.mono (by decide)) Z.Chain_count.b .nil pass0 (pa_cons (pv 2) (pa_cons (pv 3) pa_nil))))))), ?_⟩
    refine ⟨_, rfl, _, rfl, _, rfl, bk, x, n, S, a, b, T, r, rfl, W, hn, fun H1 s1 => ?_⟩
    obtain ⟨bx, bd, bt, g1, _, _⟩ := (W.same s1).bk.ob
    refine ⟨_, rfl, _, rfl, bk, Z.CBook, bx, _, _, rfl, g1, Z.Book.cl, Z.Book.a_kept_sounds, F_Book_kept_sounds _ _ _ _, _, _, rfl, rfl, Int.ofNat sd, 0, (S : Int) - 1, rfl, Int.natCast_nonneg sd, ?_, ?_⟩
    · show (sd : Int) ≤ (S : Int) - 1
      omega
    refine ⟨_, rfl, _, rfl, fun c dx0 hc hd nd => ⟨c, dx0, bk, x, S, a, b, T, r, rfl, upd_same, (W.same s1).same (made_same hc hd nd), fun H3 i p sb C => ⟨rfl, ?_⟩⟩⟩
    have s3 := Same.but_fresh (made_same hc hd nd) sb hc
    obtain ⟨dx, td, fd, sdd, as, bs, h1, _⟩ := C.ob
    exact ⟨c, dx, _, rfl, h1, F_Chain_no_count _ _ _ _ _ _ _, _, rfl, _, rfl, c, n, Int.ofNat sd, bk, x, S, a, b, T, r, i, p, rfl, C, fun H4 s4 => q H4 ((s1.trans s3).trans s4)⟩
def spChainRing (P : Program) (w : World) (CB : Addr) : Sp := fun vs H Q _ => ∃ bk x S a b T r, vs = [.ref bk, .ref x] ∧ WordAt P w CB H bk x S a b T r ∧ ∀ H' t m p, Same H H' → H' t = some (.tup [.int (Int.ofNat (m + 1)), .int (Int.ofNat p)]) → m ≤ 7000 → p ≤ 7000 → 0 < p → (∀ n k, m ≤ n → tl T a b r (n + k * p) = tl T a b r n) → Q (.ref t) H'
theorem ok_chain_ring (Z : Defs K mg) : FnOk P w K mg base CX0 7 Z.chain_ring.f Z.chain_ring.fd ["book", "word"] (spChainRing P w Z.CBook) := by
  refine Z.chain_ring.F.ok sc_chain_ring (fun vs H Q E h => ?_) (fun cdv A outer s H vs Q E hr h => ?_)
  · obtain ⟨bk, x, S, a, b, T, r, rfl, _⟩ := h
    rfl
  · obtain ⟨bk, x, S, a, b, T, r, rfl, W, q⟩ := h
    refine ⟨_, (pss_cons (ps_expr (pe_call (ok_check_word (P := P) (w := w) Z) (hr.mono (by decide)) (by rfl) Z.check_word.g Z.check_word.F.kp Z.check_word.b .nil pass0 (pa_cons (pv 0) (pa_cons (pv 1) pa_nil))))
        (pss_cons (ps_set (i := 2) sc_chain_ring.nd rfl (Or.inl rfl) (pe_make Z.Chain.M (ok_Chain_init (P := P) (w := w) Z) (hr.mono (by decide)) (by rfl) Z.Chain.gC Z.Chain_init.b .nil pass0 (pa_cons (pv 0) (pa_cons (pv 1) pa_nil))))
        (pss_one (ps_ret (pe_tup (pa_cons (pe_op op_add (pe_callB (call_max2 rfl) (by rfl) Z.b_max (by decide +kernel) (pa_cons (pe_fld (pv 2) rfl) (pa_cons (pe_meth0 (pv 2) Z.Chain.cl Z.Chain_full.m (ok_Chain_full (P := P) (w := w) Z) (hr.mono (by decide)) Z.Chain_full.b .nil pass0) pa_nil))) pe_int) (pa_cons (pe_fld (pv 2) rfl) pa_nil))))))), ?_⟩
    refine ⟨_, rfl, _, rfl, bk, x, S, a, b, T, r, rfl, W, fun H1 s1 => ?_⟩
    refine ⟨_, rfl, _, rfl, fun c dx0 hc hd nd => ⟨c, dx0, bk, x, S, a, b, T, r, rfl, upd_same, (W.same s1).same (made_same hc hd nd), fun H2 i p sb C => ⟨rfl, ?_⟩⟩⟩
    have s2 := Same.but_fresh (made_same hc hd nd) sb hc
    obtain ⟨dx, td, fd, sd, as, bs, h1, _⟩ := C.ob
    refine ⟨_, rfl, c, Z.CChain, dx, _, _, rfl, h1, Z.Chain.cl, Z.Chain.a_before, F_Chain_before _ _ _ _ _ _ _, _, rfl, c, dx, _, rfl, h1, F_Chain_no_full _ _ _ _ _ _ _, c, bk, x, S, a, b, T, r, i, p, rfl, C, fun f hf1 hf2 => ?_⟩
    refine ⟨Int.ofNat i, Int.ofNat f, rfl, ?_⟩
    rw [max_ite]
    refine ⟨_, _, rfl, rfl, _, rfl, c, Z.CChain, dx, _, _, rfl, h1, Z.Chain.cl, Z.Chain.a_ring, F_Chain_ring _ _ _ _ _ _ _, (by show 2 ≤ sizeLine; decide), fun t ht => ?_⟩
    have few := C.few
    have a4 := W.bk.a4
    refine q _ t (max i f) p ((s1.trans s2).trans (same_new ht)) upd_same (by omega) (by omega) C.p0 fun n k hk => ?_
    have e := tl_pers C.per (n - i) k
    rw [show i + (n - i) = n by omega] at e
    exact e
end
end K98
/-! Doubled words: doubled_ends. -/
namespace K98
open PySem PySem.Spec PyProof.Rows L2
/-- what is met so far, with its numbers -/
def tkG {κ : Type} (f : Nat → κ) (n : Nat) : List (κ × V) := (List.range n).map fun j => (f j, V.int (Int.ofNat j))
theorem tkG_succ {κ : Type} (f : Nat → κ) (n : Nat) : tkG f (n + 1) = tkG f n ++ [(f n, V.int (Int.ofNat n))] := by
  unfold tkG
  rw [List.range_succ, List.map_append]
  rfl
theorem tkG_len {κ : Type} (f : Nat → κ) (n : Nat) : (tkG f n).length = n := by
  unfold tkG
  rw [List.length_map, List.length_range]
theorem valV_snoc_some {κ : Type} [DecidableEq κ] {kvs : List (κ × V)} {k j : κ} {y v : V} (h : valV kvs j = some v) : valV (kvs ++ [(k, y)]) j = some v := by
  unfold valV at h ⊢
  rw [List.find?_append]
  cases q : kvs.find? (fun kv => decide (kv.1 = j)) with
  | none => rw [q] at h; cases h
  | some z => rw [q] at h; exact h
theorem tkG_val {κ : Type} [DecidableEq κ] {f : Nat → κ} (k : κ) : ∀ n, (valV (tkG f n) k = none ∧ ∀ j, j < n → f j ≠ k) ∨ ∃ j, j < n ∧ f j = k ∧ valV (tkG f n) k = some (.int (Int.ofNat j))
  | 0 => .inl ⟨rfl, fun j h => absurd h (Nat.not_lt_zero j)⟩
  | n + 1 => by
    rw [tkG_succ]
    rcases tkG_val (f := f) k n with ⟨h1, h2⟩ | ⟨j, h1, h2, h3⟩
    · by_cases e : f n = k
      · refine .inr ⟨n, Nat.lt_succ_self n, e, ?_⟩
        rw [valV_snoc _ _ _ _ (by rw [e]; exact h1), if_pos e.symm]
      · refine .inl ⟨?_, fun j hj => ?_⟩
        · unfold valV at h1 ⊢
          rw [List.find?_append, Option.map_eq_none_iff.mp h1]
          simp [e]
        · by_cases c : j = n
          · rw [c]; exact e
          · exact h2 j (by omega)
    · exact .inr ⟨j, by omega, h2, valV_snoc_some h3⟩
theorem summ_size (a b : Nat) (r : Row) : (summ a b r).1.length + (summ a b r).2.length ≤ a + b := by
  unfold summ
  by_cases c : r.length < a + b
  · rw [if_pos c]
    show r.length + 0 ≤ _
    omega
  · rw [if_neg c]
    show (r.take b).length + (lastN a r).length ≤ _
    rw [List.length_take, lastN_len]
    omega
theorem atI_lastmap {as : List Addr} {j : Nat} {t : Addr} (hl : as.length = j + 1) (h : as[j]? = some t) : atI (as.map V.ref) (-1) = some (.ref t) := by
  obtain ⟨lt, e⟩ := List.getElem?_eq_some_iff.mp h
  have : as = as.take j ++ [t] := by
    rw [← e, List.take_append_getElem]
    exact (List.take_of_length_le (by omega)).symm
  rw [this, List.map_append]
  exact atI_last _ _
section
variable {P : Program} {w : World} {K : PySem.W.Frag} {mg : PySem.Str → Option Value} {base : Heap}
def spDoubled (P : Program) (w : World) (CB : Addr) : Sp := fun vs H Q _ => ∃ bk x n S a b T r, vs = [.ref bk, .ref x, .int (Int.ofNat n)] ∧ WordAt P w CB H bk x S a b T r ∧ n ≤ 10 ^ 30 ∧ ∀ t H', Same H H' → PairAt H' t (ends a b (dbl T a b r n)) → Q (.ref t) H'
theorem ok_doubled_ends (Z : Defs K mg) : FnOk P w K mg base CX0 7 Z.doubled_ends.f Z.doubled_ends.fd ["book", "word", "times"] (spDoubled P w Z.CBook) := by
  refine Z.doubled_ends.F.ok sc_doubled_ends (fun vs H Q E h => ?_) (fun cdv A outer s H vs Q E hr h => ?_)
  · obtain ⟨bk, x, n, S, a, b, T, r, rfl, _⟩ := h
    rfl
  · obtain ⟨bk, x, n, S, a, b, T, r, rfl, W, hn, q⟩ := h
    have tok := W.bk.ok
    have a4 := W.bk.a4
    have b4 := W.bk.b4
    refine ⟨_, (pss_cons (ps_expr (pe_call (ok_check_word (P := P) (w := w) Z) (hr.mono (by decide)) (by rfl) Z.check_word.g Z.check_word.F.kp Z.check_word.b .nil pass0 (pa_cons (pv 0) (pa_cons (pv 1) pa_nil))))
        (pss_cons (ps_expr (pe_call (ok_check_number (P := P) (w := w) Z) (hr.mono (by decide)) (by rfl) Z.check_number.g Z.check_number.F.kp Z.check_number.b .nil pass0 (pa_cons (pv 2) (pa_cons pe_int (pa_cons (pe_glob (v := .int 1000000000000000000000000000000) rfl Z.c_MOST_TIMES.choose_spec ⟨_, rfl⟩) pa_nil)))))
        (pss_cons (ps_set (i := 3) sc_doubled_ends.nd rfl (Or.inl rfl) (pe_lst (pa_cons (pe_call (ok_summed_up (P := P) (w := w) Z) (hr.mono (by decide)) (by rfl) Z.summed_up.g Z.summed_up.F.kp Z.summed_up.b .nil pass0 (pa_cons (pv 0) (pa_cons (pv 1) pa_nil))) pa_nil)))
        (pss_cons (ps_set (i := 4) sc_doubled_ends.nd rfl (Or.inl rfl) (pe_none1 pairS hr.units (pe_ix ix_list (pv 3) pe_int (fun _ _ => rfl)) pe_int))
        (pss_cons (ps_while PassesOwn.never (pt_cmpR op_le (pe_callB call_len_seq (by rfl) Z.b_len PySem.boot_len (pa_cons (pv 3) pa_nil)) (pv 2) (nomark _))
        (pss_cons (ps_set (i := 5) sc_doubled_ends.nd rfl (Or.inl rfl) (pe_call (ok_standing_for (P := P) (w := w) Z) (hr.mono (by decide)) (by rfl) Z.standing_for.g Z.standing_for.F.kp Z.standing_for.b .nil pass0 (pa_cons (pe_ix ix_list (pv 3) (pe_un un_neg pe_int) (fun _ _ => rfl)) pa_nil)))
          (pss_cons (ps_set (i := 6) sc_doubled_ends.nd rfl (Or.inl rfl) (pe_call (ok_summed_up (P := P) (w := w) Z) (hr.mono (by decide)) (by rfl) Z.summed_up.g Z.summed_up.F.kp Z.summed_up.b .nil pass0 (pa_cons (pv 0) (pa_cons (pe_call (ok_met_rows (P := P) (w := w) Z) (hr.mono (by decide)) (by rfl) Z.met_rows.g Z.met_rows.F.kp Z.met_rows.b .nil pass0 (pa_cons (pv 0) (pa_cons (pv 5) (pa_cons (pv 5) pa_nil)))) pa_nil))))
          (pss_cons (ps_if (pt_cmp (pc_nin pairS hr.units (pv 6) (pv 4)))
          (pss_cons (ps_set (i := 7) sc_doubled_ends.nd rfl (Or.inl rfl) (pe_nget pairS hr.units (pv 4) (pv 6) (fun _ _ => rfl)))
            (pss_one (ps_ret (pe_call (ok_ends_of (P := P) (w := w) Z) (hr.mono (by decide)) (by rfl) Z.ends_of.g Z.ends_of.F.kp Z.ends_of.b .nil pass0 (pa_cons (pv 0) (pa_cons (pe_call (ok_standing_for (P := P) (w := w) Z) (hr.mono (by decide)) (by rfl) Z.standing_for.g Z.standing_for.F.kp Z.standing_for.b .nil pass0 (pa_cons (pe_ix ix_list (pv 3) (pe_op op_add (pv 7) (pe_op op_mod (pe_op op_sub (pv 2) (pv 7)) (pe_op op_sub (pe_callB call_len_seq (by rfl) Z.b_len PySem.boot_len (pa_cons (pv 3) pa_nil)) (pv 7)))) (fun _ _ => rfl)) pa_nil)) pa_nil))))))
          pss_nil)
          (pss_cons (ps_nput pairS hr.units (pv 4) (pv 6) (pe_callB call_len_seq (by rfl) Z.b_len PySem.boot_len (pa_cons (pv 3) pa_nil)) rfl)
          (pss_one (ps_expr (pe_bm PySem.F.plainAttrs_list PySem.F.slot_list_append PySem.F.type_list_append mt_append (pv 3) (pa_cons (pv 6) pa_nil)))))))))
        (pss_one (ps_ret (pe_call (ok_ends_of (P := P) (w := w) Z) (hr.mono (by decide)) (by rfl) Z.ends_of.g Z.ends_of.F.kp Z.ends_of.b .nil pass0 (pa_cons (pv 0) (pa_cons (pe_call (ok_standing_for (P := P) (w := w) Z) (hr.mono (by decide)) (by rfl) Z.standing_for.g Z.standing_for.F.kp Z.standing_for.b .nil pass0 (pa_cons (pe_ix ix_list (pv 3) (pv 2) (fun _ _ => rfl)) pa_nil)) pa_nil)))))))))), ?_⟩
    refine ⟨_, rfl, _, rfl, bk, x, S, a, b, T, r, rfl, W, fun H1 s1 => ?_⟩
    refine ⟨_, rfl, Int.ofNat n, 0, 10 ^ 30, rfl, Int.natCast_nonneg n, Int.ofNat_le.mpr hn, ?_⟩
    obtain ⟨sm, hsm⟩ : ∃ sm : Nat → K2, sm = fun k => summ a b (dbl T a b r k) := ⟨_, rfl⟩
    have sm0 : sm 0 = summ a b r := by rw [hsm]; rfl
    have smS : ∀ k, sm (k + 1) = summ a b (met T a b (stand (sm k)) (stand (sm k))) := fun k => by
      rw [hsm]
      exact summ_dbl tok k
    have smZ : ∀ k, (sm k).1.length + (sm k).2.length ≤ a + b := fun k => by
      rw [hsm]
      exact summ_size a b _
    have smE : ∀ k, ends a b (stand (sm k)) = ends a b (dbl T a b r k) := fun k => by
      rw [hsm]
      exact ends_stand _
    have smT : sm 4 = sm 3 := by
      rw [hsm]
      exact summ_stay tok W.w1 (by omega) (Nat.le_refl 3)
    -- found = [summed_up(book, word)]
    refine ⟨_, rfl, _, rfl, bk, x, r, S, a, b, T, rfl, W.bk.same s1, W.row.same s1, fun t0 H2 s2 e2 => ?_⟩
    rw [← sm0] at e2
    refine ⟨(by show 1 ≤ sizeLine; decide), fun fd hfd => ?_⟩
    have s3 := same_new (o := .lst [V.ref t0]) hfd
    have l3 : (upd H2 fd (.lst [V.ref t0])) fd = some (.lst [V.ref t0]) := upd_same
    have e3 := e2.same s3
    have sA : Same H (upd H2 fd (.lst [V.ref t0])) := (s1.trans s2).trans s3
    have hfd0 : H fd = none := by
      cases z : H fd with
      | none => rfl
      | some o => rw [(s1.trans s2) _ _ z] at hfd; cases hfd
    generalize upd H2 fd (.lst [V.ref t0]) = H3 at s3 l3 e3 sA ⊢
    -- seen = {found[0]: 0}
    refine fun sd hsd => ⟨_, rfl, fd, _, 0, _, rfl, rfl, SqL.of (same_new hsd _ _ l3), atI_nat (j := 0) rfl, ?_⟩
    refine ⟨t0, sm 0, rfl, NDict.new, e3.same (same_new hsd), fun H4 hys n4 => ?_⟩
    have hsd0 : H sd = none := by
      cases z : H sd with
      | none => rfl
      | some o => rw [sA _ _ z] at hsd; cases hsd
    have s4 : Same H3 H4 := by
      obtain ⟨ys, rfl⟩ := hys
      rw [upd_upd]
      exact same_new hsd
    clear hys
    have nfs : fd ≠ sd := fun z => by rw [← z, l3] at hsd; cases hsd
    refine ⟨fun m σ H' => ∃ j as v5 v6, σ = [some (.ref bk), some (.ref x), some (.int (Int.ofNat n)), some (.ref fd), some (.ref sd), v5, v6, none] ∧ Same H H' ∧ H' fd = some (.lst (List.map V.ref as)) ∧ as.length = j + 1 ∧ (∀ (i : Nat) (t : Addr), as[i]? = some t → PairAt H' t (sm i)) ∧ NDict pairS P w H' sd (tkG sm (j + 1)) ∧ (∀ i k, i < k → k < j + 1 → sm i ≠ sm k) ∧ m + j = 10, ⟨10, 0, [t0], none, none, rfl, sA.trans s4, s4 _ _ l3, rfl, fun i t e => ?_, n4, fun i k h1 h2 => by omega, rfl⟩, ?_⟩
    · have : i = 0 := by
        cases i with
        | zero => rfl
        | succ i => cases e
      subst this
      cases e
      exact e3.same s4
    rintro m σ H' ⟨j, as, v5, v6, rfl, sH, hl, hal, hat, nd, inj, hm⟩
    have j3 : j ≤ 3 := by
      refine Nat.le_of_not_lt fun h => ?_
      exact inj 3 4 (by omega) (by omega) smT.symm
    refine ⟨_, rfl, fd, _, rfl, .inl (SqL.of hl), _, rfl, ((List.map V.ref as).length : Int), Int.ofNat n, rfl, rfl, _, rfl, ?_⟩
    rw [List.length_map, hal]
    have B' := W.bk.same sH
    refine ite2 (fun e => ?_) (fun e => ?_)
    · have e1 : j + 1 ≤ n := by
        have e0 : ((j + 1 : Nat) : Int) ≤ (n : Int) := of_decide_eq_true e
        omega
      refine ⟨fun σ' H1 => ∃ m', m' < m ∧ _, fun σ' H1 h => h, ?_⟩
      -- row = standing_for(found[-1])
      have hlast : as[j]? = some as[j] := List.getElem?_eq_getElem (by omega)
      refine ⟨_, rfl, 1, rfl, fd, _, _, _, rfl, rfl, SqL.of hl, atI_lastmap hal hlast, ?_⟩
      refine ⟨as[j], sm j, rfl, hat _ _ hlast, (by have := smZ j; omega), fun u H5 s5 e5 => ?_⟩
      -- later = summed_up(book, met_rows(book, row, row))
      have B5 := B'.same s5
      have lu : (stand (sm j)).length ≤ 10000 := by
        unfold stand
        rw [List.length_append]
        have := smZ j
        omega
      refine ⟨_, rfl, _, rfl, _, rfl, _, rfl, bk, u, u, _, _, S, a, b, T, rfl, B5, e5, e5, lu, lu, fun v H6 s6 e6 => ?_⟩
      refine ⟨bk, v, _, S, a, b, T, rfl, B5.same s6, e6, fun y H7 s7 e7 => ?_⟩
      rw [← smS j] at e7
      have nd7 := ((nd.same s5).same s6).same s7
      have l7 := s7 _ _ (s6 _ _ (s5 _ _ hl))
      have sH7 := ((sH.trans s5).trans s6).trans s7
      have at7 : ∀ (i : Nat) (t : Addr), as[i]? = some t → PairAt H7 t (sm i) := fun i t e => (((hat i t e).same s5).same s6).same s7
      -- if later in seen
      refine ⟨_, rfl, _, rfl, sd, y, sm (j + 1), _, rfl, rfl, nd7.rd, e7, ?_⟩
      rcases tkG_val (f := sm) (sm (j + 1)) (j + 1) with ⟨ev, en⟩ | ⟨i, hi, ei, ev⟩
      · rw [ev]
        refine ⟨false, rfl, iteF ?_⟩
        -- seen[later] = len(found)
        refine ⟨_, rfl, fd, _, rfl, .inl (SqL.of l7), _, rfl, _, rfl, sd, y, sm (j + 1), _, rfl, rfl, nd7, e7, (by rw [tkG_len]; exact Nat.lt_of_le_of_lt (Nat.add_le_add_right j3 1) (by decide)), fun H8 hys n8 => ?_⟩
        rw [putK_new _ ev, List.length_map, hal] at n8
        have n8' : NDict pairS P w H8 sd (tkG sm (j + 1 + 1)) := by
          rw [tkG_succ]
          exact n8
        obtain ⟨ys, eH⟩ := hys
        obtain ⟨xs7, hsd7, _⟩ := id nd7
        have kp8 : Keeps H7 H8 := by rw [eH]; exact Keeps.upd hsd7 rfl
        have l8 : H8 fd = some (.lst (List.map V.ref as)) := by rw [eH, upd_ne nfs]; exact l7
        have sH8 : Same H H8 := by rw [eH]; exact Same.upd_fresh sH7 hsd0
        have e8 := e7.keep kp8
        clear eH
        -- found.append(later)
        refine ⟨_, rfl, .inl ⟨rfl, _, SqL.of l8⟩, _, rfl, fd, _, _, rfl, rfl, l8, ?_, ?_⟩
        · rw [List.length_map, hal]
          exact Nat.lt_of_le_of_lt (Nat.add_le_add_right j3 1) (by decide)
        have el : List.map V.ref as ++ [V.ref y] = List.map V.ref (as ++ [y]) := by rw [List.map_append]; rfl
        rw [el]
        have kp9 : Keeps H8 (upd H8 fd (.lst (List.map V.ref (as ++ [y])))) := Keeps.upd l8 rfl
        refine ⟨m - 1, by omega, j + 1, as ++ [y], _, _, rfl, Same.upd_fresh sH8 hfd0, upd_same, (by rw [List.length_append, hal]; rfl), fun i t e => ?_, n8'.keep (upd_ne nfs.symm) kp9, fun i k h1 h2 => ?_, by omega⟩
        · rcases get_snoc hal e with e' | ⟨e1, e2⟩
          · exact ((at7 i t e').keep kp8).keep kp9
          · rw [e1, e2]
            exact e8.keep kp9
        · by_cases c : k = j + 1
          · rw [c]
            exact en i (by omega)
          · exact inj i k h1 (by omega)
      · rw [ev]
        refine ⟨true, rfl, iteT ?_⟩
        refine ⟨_, rfl, _, rfl, sd, y, sm (j + 1), _, _, rfl, rfl, nd7.rd, e7, ev, ?_⟩
        -- return ends_of(book, standing_for(found[..]))
        have hp : 0 < j + 1 - i := by omega
        have hix := it_ix (f := sm) (g := fun s => summ a b (met T a b (stand s) (stand s))) smS (i := i) (p := j + 1 - i) (by rw [show i + (j + 1 - i) = j + 1 by omega]; exact ei.symm) n
        have hlt := ixOf_lt (i := i) (n := n) hp
        have eix : ixOf i (j + 1 - i) n = i + (n - i) % (j + 1 - i) := by
          unfold ixOf
          rw [if_neg (by omega)]
        rw [eix] at hix hlt
        have hget : as[i + (n - i) % (j + 1 - i)]? = some as[i + (n - i) % (j + 1 - i)] := List.getElem?_eq_getElem (by omega)
        refine ⟨_, rfl, _, rfl, _, rfl, _, rfl, _, rfl, _, _, rfl, rfl, _, rfl, fd, _, rfl, .inl (SqL.of l7), _, rfl, _, _, rfl, rfl, Int.ofNat n - Int.ofNat i, (((j + 1 - i : Nat) : Nat) : Int), rfl, ?_, by omega, Int.ofNat i, (Int.ofNat n - Int.ofNat i) % (((j + 1 - i : Nat) : Nat) : Int), rfl, rfl, ?_⟩
        · show V.int (((List.map V.ref as).length : Int) - Int.ofNat i) = V.int (((j + 1 - i : Nat) : Nat) : Int)
          rw [List.length_map, hal]
          have : ((j + 1 : Nat) : Int) - Int.ofNat i = ((j + 1 - i : Nat) : Int) := by
            show ((j + 1 : Nat) : Int) - (i : Int) = _
            omega
          rw [this]
        have ei2 : Int.ofNat i + (Int.ofNat n - Int.ofNat i) % (((j + 1 - i : Nat) : Nat) : Int) = ((i + (n - i) % (j + 1 - i) : Nat) : Int) := by
          have : (Int.ofNat n - Int.ofNat i) = ((n - i : Nat) : Int) := by
            show (n : Int) - (i : Int) = _
            omega
          rw [this, Int.natCast_add, Int.natCast_emod]
          rfl
        refine ⟨fd, _, ((i + (n - i) % (j + 1 - i) : Nat) : Int), _, rfl, congrArg V.int ei2, SqL.of l7, atI_map hget, ?_⟩
        refine ⟨_, _, rfl, at7 _ _ hget, (by have := smZ (i + (n - i) % (j + 1 - i)); omega), fun z H8 s8 e8 => ?_⟩
        refine ⟨bk, z, _, S, a, b, T, rfl, ((B5.same s6).same s7).same s8, e8, fun o H9 s9 e9 => ?_⟩
        rw [smE, ← smE, hix, smE] at e9
        exact q o H9 ((sH7.trans s8).trans s9) e9
    · have e1 : n < j + 1 := by
        have e0 : ¬ ((j + 1 : Nat) : Int) ≤ (n : Int) := fun z => e (decide_eq_true z)
        omega
      have hget : as[n]? = some as[n] := List.getElem?_eq_getElem (by omega)
      refine ⟨_, rfl, _, rfl, _, rfl, fd, _, Int.ofNat n, _, rfl, rfl, SqL.of hl, atI_map hget, ?_⟩
      refine ⟨_, _, rfl, hat _ _ hget, (by have := smZ n; omega), fun z H8 s8 e8 => ?_⟩
      refine ⟨bk, z, _, S, a, b, T, rfl, B'.same s8, e8, fun o H9 s9 e9 => ?_⟩
      rw [smE] at e9
      exact q o H9 ((sH.trans s8).trans s9) e9
end
end K98
/-! The law's own hand: what it draws. -/
namespace K98
open PySem PySem.Spec PyProof.Rows L2
theorem seq_by {A B : TS} {D : Ends} {σ : St} {H : Hp} (J : St → Hp → Prop) (hA : ∀ N : St → Hp → Prop, (∀ σ' H', J σ' H' → N σ' H') → A { D with nx := N } σ H) (hB : ∀ σ' H', J σ' H' → B D σ' H') : tSeq A B D σ H := hA _ hB
/-- the hand: a list of five, its cells ints from 0 on -/
def HandAt (H : Hp) (hp cp : Addr) : Prop := ∃ (cs : Row) (i c2 c3 c4 : Int), H hp = some (.lst [.ref cp, .int i, .int c2, .int c3, .int c4]) ∧ H cp = some (.lst (vr cs)) ∧ cp ≠ hp ∧ (∀ z ∈ cs, 0 ≤ z) ∧ 0 ≤ i ∧ 0 ≤ c2
theorem HandAt.put {H : Hp} {hp cp : Addr} {cs : Row} {i c2 c3 c4 : Int} (hc : H cp = some (.lst (vr cs))) (ne : cp ≠ hp) (nn : ∀ z ∈ cs, 0 ≤ z) (h1 : 0 ≤ i) (h2 : 0 ≤ c2) : HandAt (L2.upd H hp (.lst [.ref cp, .int i, .int c2, .int c3, .int c4])) hp cp :=
  ⟨cs, i, c2, c3, c4, upd_same, by rw [upd_ne ne]; exact hc, ne, nn, h1, h2⟩
theorem HandAt.same {H H' : Hp} {hp cp : Addr} (h : HandAt H hp cp) (s : Same H H') : HandAt H' hp cp := by
  obtain ⟨cs, i, c2, c3, c4, h1, h2, h3, h4, h5, h6⟩ := h
  exact ⟨cs, i, c2, c3, c4, s _ _ h1, s _ _ h2, h3, h4, h5, h6⟩
theorem HandAt.lst {H : Hp} {hp cp : Addr} (h : HandAt H hp cp) : ∃ xs, H hp = some (.lst xs) := by
  obtain ⟨cs, i, c2, c3, c4, h1, _⟩ := h
  exact ⟨_, h1⟩
theorem HandAt.cel {H : Hp} {hp cp : Addr} (h : HandAt H hp cp) : ∃ xs, H cp = some (.lst xs) := by
  obtain ⟨cs, i, c2, c3, c4, _, h1, _⟩ := h
  exact ⟨_, h1⟩
theorem HandAt.upd {H : Hp} {hp cp D : Addr} {o : HO} (h : HandAt H hp cp) (n1 : D ≠ hp) (n2 : D ≠ cp) : HandAt (L2.upd H D o) hp cp := by
  obtain ⟨cs, i, c2, c3, c4, h1, h2, h3, h4, h5, h6⟩ := h
  exact ⟨cs, i, c2, c3, c4, by rw [upd_ne n1.symm]; exact h1, by rw [upd_ne n2.symm]; exact h2, h3, h4, h5, h6⟩
theorem HandAt.new {H : Hp} {hp cp D : Addr} (h : HandAt H hp cp) (hD : H D = none) : D ≠ hp ∧ D ≠ cp := by
  obtain ⟨xs, e⟩ := h.lst
  obtain ⟨ys, e2⟩ := h.cel
  exact ⟨(ne_of_none e hD).symm, (ne_of_none e2 hD).symm⟩
/-- the ints without their signs -/
def absR (ns : List Int) : Row := ns.map fun i => if i < 0 then -i else i
theorem absR_nn (ns : List Int) : ∀ z ∈ absR ns, 0 ≤ z := fun z hz => by
  obtain ⟨i, _, e⟩ := List.mem_map.mp hz
  rw [← e]
  show 0 ≤ if i < 0 then -i else i
  split <;> omega
theorem mod_cmul {a b : Int} (h : 0 < b) (h2 : b < 2 ^ 64) (j : Int) : CMul (a % b) j := by
  have e0 := Int.emod_nonneg a (show b ≠ 0 by omega)
  have e1 := Int.emod_lt_of_pos a h
  exact .inl ⟨by omega, by omega⟩
section
variable {P : Program} {w : World} {K : PySem.W.Frag} {mg : PySem.Str → Option Value} {base : Heap}
def spHand (K : PySem.W.Frag) : Sp := fun vs H Q _ => ∃ (a : Addr) (ns : List Int), vs = [.ref a] ∧ SqL K H a (ns.map V.int) ∧ ns.length ≤ 63 ∧ ∀ H' q cp, Same H H' → H q = none → HandAt H' q cp → Q (.ref q) H'
theorem ok_law_hand (Z : Defs K mg) : FnOk P w K mg base CX0 1 Z.law_hand.f Z.law_hand.fd ["_law_script"] (spHand K) := by
  refine Z.law_hand.F.ok sc_law_hand (fun vs H Q E h => ?_) (fun cdv A outer s H vs Q E hr h => ?_)
  · obtain ⟨a, ns, rfl, _⟩ := h
    rfl
  · obtain ⟨a, ns, rfl, ha, hl, q⟩ := h
    refine ⟨_, (pss_cons (ps_setLc (i := 1) (own := [("_law_cell", 2)]) (g := gName 2) (by rfl) sc_law_hand.nd rfl rfl (sw_true rfl rfl rfl (by decide +kernel)) (pi_list (pe_slice sl_list (pv 0) po_none (po_some pe_int))) (blkOk_by (own := [("_law_cell", 2)]) (N := ["_law_script", "_law_cells", "_law_cell"]) (sc := defScope s_law_hand) (by decide +kernel)) (fun _ _ _ _ _ => (pg_name (i := 2) sc_law_hand.nd rfl (Or.inl rfl))) (fun _ _ _ _ _ => pts_nil) (fun _ _ _ _ _ => (pe_callB call_abs (by rfl) Z.b_abs (by decide +kernel) (pa_cons (pe_callTy call_int1 (by rfl) Z.b_int (by decide +kernel) (pa_cons (pv 2) pa_nil)) pa_nil))))
        (pss_one (ps_ret (pe_lst (pa_cons (pv 1) (pa_cons pe_int (pa_cons pe_int (pa_cons (pe_op op_add pe_int (pe_callB call_len_seq (by rfl) Z.b_len PySem.boot_len (pa_cons (pv 1) pa_nil))) (pa_cons pe_int pa_nil))))))))), ?_⟩
    refine ⟨_, rfl, 63, rfl, a, _, rfl, ha, fun p hp => ?_⟩
    have ecut : cutV (ns.map V.int) none (some 63) = vr ns := by
      have := cutV_vr ns none (some 63)
      rw [show cutR ns none (some 63) = ns.take 63 from cutR_upto ns 63, List.take_of_length_le hl] at this
      exact this
    rw [show (List.map V.int ns) = vr ns from rfl, ecut]
    have s1 : Same H (upd H p (.lst (vr ns))) := same_new hp
    have h1 : (upd H p (.lst (vr ns))) p = some (.lst (vr ns)) := upd_same
    generalize upd H p (.lst (vr ns)) = H1 at s1 h1 ⊢
    refine ⟨p, rfl, ⟨_, SqL.of h1⟩, fun D hD => ?_⟩
    refine lc_list (K := K) (a := p) (xs := vr ns) (fun j H' => Same H1 H' ∧ H' D = some (.lst (vr (absR (ns.take j))))) ⟨same_new hD, upd_same⟩ (fun j H' _ h' => SqL.of (h'.1 _ _ h1)) ?_ ?_
    · rintro j x H' hx ⟨sm, hd⟩
      unfold vr at hx
      rw [List.getElem?_map] at hx
      cases hz : ns[j]? with
      | none => rw [hz] at hx; cases hx
      | some z =>
      rw [hz] at hx
      cases hx
      have hj : j < 63 := by
        have := (List.getElem?_eq_some_iff.mp hz).1
        omega
      refine ⟨rfl, _, rfl, .inl ⟨z, rfl, z, rfl, _, hd, ?_, Same.upd_fresh sm hD, ?_⟩⟩
      · rw [vr_len]
        unfold absR
        rw [List.length_map, List.length_take]
        exact small1000 (by omega)
      · rw [upd_same, List.take_add_one, hz]
        unfold absR vr
        rw [List.map_append, List.map_append]
        rfl
    rintro H2 ⟨s2, hd2⟩
    rw [vr_len, List.take_length] at hd2
    refine ⟨_, rfl, _, rfl, D, _, rfl, .inl (SqL.of hd2), _, _, rfl, rfl, (by show 5 ≤ sizeLine; decide), fun q0 hq0 => ?_⟩
    have sA := s1.trans s2
    refine q _ q0 D (sA.trans (same_new hq0)) ?_ ⟨absR ns, 0, 0, _, 0, upd_same, same_new hq0 _ _ hd2, (ne_of_none hd2 hq0), absR_nn ns, by decide, by decide⟩
    cases z : H q0 with
    | none => rfl
    | some o => rw [sA _ _ z] at hq0; cases hq0
def spDraw : Sp := fun vs H Q _ => ∃ (hp cp : Addr) (m : Nat), vs = [.ref hp, .int (Int.ofNat m)] ∧ HandAt H hp cp ∧ 0 < m ∧ m < 2 ^ 200 ∧ ∀ H' r, SameBut hp H H' → HandAt H' hp cp → r < m → Q (.int (Int.ofNat r)) H'
theorem ok_law_draw (Z : Defs K mg) : FnOk P w K mg base CX0 1 Z.law_draw.f Z.law_draw.fd ["_law_hand_here", "_law_many"] spDraw := by
  refine Z.law_draw.F.ok sc_law_draw (fun vs H Q E h => ?_) (fun cdv A outer s H vs Q E hr h => ?_)
  · obtain ⟨hp, cp, m, rfl, _⟩ := h
    rfl
  · obtain ⟨hp, cp, m, rfl, HA, m0, m9, q⟩ := h
    have mI : (0 : Int) < Int.ofNat m := Int.natCast_pos.mpr m0
    have fin : ∀ (H' : Hp) (z : Int), SameBut hp H H' → HandAt H' hp cp → Q (.int (z % Int.ofNat m)) H' := fun H' z s1 h1 => by
      have e0 := Int.emod_nonneg z (show Int.ofNat m ≠ 0 by omega)
      have e1 := Int.emod_lt_of_pos z mI
      obtain ⟨r, er⟩ := Int.eq_ofNat_of_zero_le e0
      have e2 : r < m := by
        rw [er] at e1
        exact Int.ofNat_lt.mp e1
      have := q H' r s1 h1 e2
      rw [er]
      exact this
    refine ⟨_, (pss_cons (ps_if (PW.pt (pw_and (pt_cmpR op_eq (pe_ix ix_list (pv 0) pe_int (fun _ _ => rfl)) pe_int (nomark _)) (pw_and1 (pt_cmpR op_lt (pe_ix ix_list (pv 0) pe_int (fun _ _ => rfl)) (pe_callB call_len_seq (by rfl) Z.b_len PySem.boot_len (pa_cons (pe_ix ix_list (pv 0) pe_int (fun _ _ => rfl)) pa_nil)) (nomark _)))))
        (pss_cons (ps_set (i := 2) sc_law_draw.nd rfl (Or.inl rfl) (pe_ix ix_list (pe_ix ix_list (pv 0) pe_int (fun _ _ => rfl)) (pe_ix ix_list (pv 0) pe_int (fun _ _ => rfl)) (fun _ _ => rfl)))
          (pss_cons (ps_asg (pe_op op_add (pe_ix ix_list (pv 0) pe_int (fun _ _ => rfl)) pe_int) (pg_sub (pv 0) pe_int set_list))
          (pss_cons (ps_asg (pe_op op_mod (pe_callTy call_int1 (by rfl) Z.b_int (by decide +kernel) (pa_cons (pe_op op_add (pe_op op_add (pe_op op_mul (pe_ix ix_list (pv 0) pe_int (fun _ _ => rfl)) pe_int) (pv 2)) pe_int) pa_nil)) pe_int) (pg_sub (pv 0) pe_int set_list))
          (pss_one (ps_if (pt_cmpR op_ge (pv 2) (pe_op op_pow pe_int pe_int) (nomark _))
          (pss_one (ps_asg (pv 2) (pg_sub (pv 0) pe_int set_list)))
          pss_nil)))))
        pss_nil)
        (pss_cons (ps_if (pt_cmpR op_gt (pe_ix ix_list (pv 0) pe_int (fun _ _ => rfl)) pe_int (nomark _))
        (pss_cons (ps_set (i := 3) sc_law_draw.nd rfl (Or.inl rfl) (pe_op op_mod (pe_callTy call_int1 (by rfl) Z.b_int (by decide +kernel) (pa_cons (pe_ix ix_list (pv 0) pe_int (fun _ _ => rfl)) pa_nil)) (pv 1)))
          (pss_cons (ps_asg (pe_op op_fdivW (pe_ix ix_list (pv 0) pe_int (fun _ _ => rfl)) (pv 1)) (pg_sub (pv 0) pe_int set_list))
          (pss_one (ps_ret (pv 3)))))
        pss_nil)
        (pss_cons (ps_asg (pe_op op_add (pe_ix ix_list (pv 0) pe_int (fun _ _ => rfl)) pe_int) (pg_sub (pv 0) pe_int set_list))
        (pss_cons (ps_set (i := 4) sc_law_draw.nd rfl (Or.inl rfl) (pe_op op_mod (pe_callTy call_int1 (by rfl) Z.b_int (by decide +kernel) (pa_cons (pe_op op_mul (pe_callTy call_int1 (by rfl) Z.b_int (by decide +kernel) (pa_cons (pe_op op_add (pe_ix ix_list (pv 0) pe_int (fun _ _ => rfl)) (pe_op op_mul pe_int (pe_ix ix_list (pv 0) pe_int (fun _ _ => rfl)))) pa_nil)) pe_int) pa_nil)) pe_int))
        (pss_cons (ps_set (i := 4) sc_law_draw.nd rfl (Or.inl rfl) (pe_op op_mod (pe_callTy call_int1 (by rfl) Z.b_int (by decide +kernel) (pa_cons (pe_op op_mul (pv 4) (pe_op op_add (pe_op op_fdivW (pv 4) pe_int) pe_int)) pa_nil)) pe_int))
        (pss_cons (ps_set (i := 4) sc_law_draw.nd rfl (Or.inl rfl) (pe_op op_mod (pe_callTy call_int1 (by rfl) Z.b_int (by decide +kernel) (pa_cons (pe_op op_mul (pv 4) (pe_op op_add (pe_op op_fdivW (pv 4) pe_int) pe_int)) pa_nil)) pe_int))
        (pss_one (ps_ret (pe_op op_mod (pe_callTy call_int1 (by rfl) Z.b_int (by decide +kernel) (pa_cons (pe_op op_fdivW (pv 4) pe_int) pa_nil)) (pv 1)))))))))), ?_⟩
    refine seq_by (fun σ' H' => ∃ v2, σ' = [some (.ref hp), some (.int (Int.ofNat m)), v2, none, none] ∧ SameBut hp H H' ∧ HandAt H' hp cp) (fun N hN => ?_) ?_
    · obtain ⟨cs, i, c2, c3, c4, h1, h2, ne, nn, i0, c20⟩ := id HA
      refine ⟨_, rfl, hp, _, 2, _, rfl, rfl, SqL.of h1, atI_nat (j := 2) rfl, rfl, _, rfl, ite2 (fun e => ?_) (fun e => ?_)⟩
      · refine ⟨_, rfl, hp, _, 1, _, rfl, rfl, SqL.of h1, atI_nat (j := 1) rfl, _, rfl, hp, _, 0, _, rfl, rfl, SqL.of h1, atI_nat (j := 0) rfl, cp, _, rfl, .inl (SqL.of h2), _, _, rfl, rfl, _, rfl, ite2 (fun e1 => ?_) (fun e1 => ?_)⟩
        · -- cell = hand[0][hand[1]]
          obtain ⟨j, rfl⟩ := Int.eq_ofNat_of_zero_le i0
          have hj : j < cs.length := by
            have e2 : (j : Int) < ((vr cs).length : Int) := of_decide_eq_true e1
            rw [vr_len] at e2
            omega
          have hget : (vr cs)[j]? = some (.int cs[j]) := by
            unfold vr
            rw [List.getElem?_map, List.getElem?_eq_getElem hj]
            rfl
          have z0 := nn _ (List.getElem_mem hj)
          generalize cs[j] = z at hget z0
          refine ⟨_, rfl, hp, _, 0, _, rfl, rfl, SqL.of h1, atI_nat (j := 0) rfl, _, rfl, hp, _, 1, _, rfl, rfl, SqL.of h1, atI_nat (j := 1) rfl, cp, _, (j : Int), _, rfl, rfl, SqL.of h2, atI_nat hget, ?_⟩
          -- hand[1] = hand[1] + 1
          refine ⟨_, rfl, hp, _, 1, _, rfl, rfl, SqL.of h1, atI_nat (j := 1) rfl, _, _, rfl, rfl, _, rfl, hp, _, 1, 1, rfl, rfl, h1, rfl, ?_⟩
          -- hand[3] = ..
          refine ⟨_, rfl, hp, _, 3, _, rfl, rfl, SqL.of upd_same, atI_nat (j := 3) rfl, _, _, rfl, rfl, .inr (by decide), _, rfl, _, _, rfl, rfl, _, _, rfl, rfl, .inl ⟨_, rfl, _, _, rfl, rfl, (by show (0 : Int) < 2147483629; decide), _, rfl, hp, _, 3, 3, rfl, rfl, upd_same, rfl, ?_⟩⟩
          rw [upd_upd]
          -- if cell >= 10 ** 18
          refine ⟨_, rfl, 10, 18, rfl, rfl, ⟨by decide, by decide, by decide⟩, _, _, rfl, rfl, _, rfl, ite2 (fun e3 => ?_) (fun e3 => ?_)⟩
          · refine ⟨_, rfl, _, rfl, hp, _, 2, 2, rfl, rfl, upd_same, rfl, ?_⟩
            rw [upd_upd]
            exact hN _ _ ⟨_, rfl, SameBut.upd, HandAt.put h2 ne nn (by omega) z0⟩
          · exact hN _ _ ⟨_, rfl, SameBut.upd, HandAt.put h2 ne nn (by omega) c20⟩
        · exact hN _ _ ⟨none, rfl, fun _ _ e _ => e, HA⟩
      · exact hN _ _ ⟨none, rfl, fun _ _ e _ => e, HA⟩
    rintro σ' H' ⟨v2, rfl, sb, HA'⟩
    obtain ⟨cs, i, c2, c3, c4, h1, h2, ne, nn, i0, c20⟩ := id HA'
    refine ⟨_, rfl, hp, _, 2, _, rfl, rfl, SqL.of h1, atI_nat (j := 2) rfl, _, _, rfl, rfl, _, rfl, ite2 (fun e => ?_) (fun e => ?_)⟩
    · -- digit
      refine ⟨_, rfl, hp, _, 2, _, rfl, rfl, SqL.of h1, atI_nat (j := 2) rfl, .inl ⟨_, rfl, _, rfl, _, _, rfl, rfl, mI, ?_⟩⟩
      refine ⟨_, rfl, hp, _, 2, _, rfl, rfl, SqL.of h1, atI_nat (j := 2) rfl, _, rfl, _, _, rfl, rfl, wide_div (b := 200) mI m9 (by decide) (by decide), _, rfl, hp, _, 2, 2, rfl, rfl, h1, rfl, ?_⟩
      exact ⟨_, rfl, fin _ c2 (sb.trans SameBut.upd) (HandAt.put h2 ne nn i0 (Int.ediv_nonneg c20 (by omega)))⟩
    · -- hand[4] = hand[4] + 1
      refine ⟨_, rfl, hp, _, 4, _, rfl, rfl, SqL.of h1, atI_nat (j := 4) rfl, _, _, rfl, rfl, _, rfl, hp, _, 4, 4, rfl, rfl, h1, rfl, ?_⟩
      have hA2 := HandAt.put (H := H') (hp := hp) (c3 := c3) (c4 := c4 + 1) h2 ne nn i0 c20
      -- figure
      refine ⟨_, rfl, hp, _, 3, _, rfl, rfl, SqL.of upd_same, atI_nat (j := 3) rfl, _, rfl, hp, _, 4, _, rfl, rfl, SqL.of upd_same, atI_nat (j := 4) rfl, _, _, rfl, rfl, .inl (by decide), _, _, rfl, rfl, .inl ⟨_, rfl, _, _, rfl, rfl, .inr (by decide), .inl ⟨_, rfl, _, _, rfl, rfl, (by show (0 : Int) < 2147483647; decide), ?_⟩⟩⟩
      refine ⟨_, rfl, _, rfl, _, _, rfl, rfl, wide_div (b := 20) (by decide) (by decide) (by decide) (by decide), _, _, rfl, rfl, _, _, rfl, rfl, mod_cmul (by decide) (by decide) _, .inl ⟨_, rfl, _, _, rfl, rfl, (by show (0 : Int) < 2147483647; decide), ?_⟩⟩
      refine ⟨_, rfl, _, rfl, _, _, rfl, rfl, wide_div (b := 20) (by decide) (by decide) (by decide) (by decide), _, _, rfl, rfl, _, _, rfl, rfl, mod_cmul (by decide) (by decide) _, .inl ⟨_, rfl, _, _, rfl, rfl, (by show (0 : Int) < 2147483399; decide), ?_⟩⟩
      refine ⟨_, rfl, _, _, rfl, rfl, wide_div (b := 20) (by decide) (by decide) (by decide) (by decide), .inl ⟨_, rfl, _, rfl, _, _, rfl, rfl, mI, ?_⟩⟩
      exact fin _ _ (sb.trans SameBut.upd) hA2
end
end K98
/-! The law's rows, its book. -/
namespace K98
open PySem PySem.Spec PyProof.Rows L2
/-- a row of the sounds below S, its length between lo and hi -/
def RO (H : Hp) (S lo hi : Nat) (t : Addr) : Prop := ∃ r, RowAt H t r ∧ InS (S : Int) r ∧ lo ≤ r.length ∧ r.length ≤ hi
theorem RO.keep {H H' : Hp} {S lo hi : Nat} {t : Addr} (h : RO H S lo hi t) (k : Keeps H H') : RO H' S lo hi t := by
  obtain ⟨r, h1, h2, h3, h4⟩ := h
  exact ⟨r, h1.keep k, h2, h3, h4⟩
theorem Keeps.same {H H' : Hp} (s : Same H H') : Keeps H H' := fun b o e _ => s b o e
theorem Keeps.lst {H : Hp} {d : Addr} {xs ys : List V} (h : H d = some (.lst xs)) : Keeps H (L2.upd H d (.lst ys)) := Keeps.upd h rfl
/-- how many rows of up to k sounds there are -/
def rowsN (S : Nat) : Nat → Nat
  | 0 => 0
  | k + 1 => rowsN S k + S ^ (k + 1)
theorem pow_small {S k : Nat} (hS : S ≤ 8) (hk : k ≤ 4) : S ^ k ≤ 4096 :=
  Nat.le_trans (Nat.pow_le_pow_left hS k) (Nat.le_trans (Nat.pow_le_pow_right (by decide) hk) (by decide))
theorem rowsN_small {S : Nat} (hS : S ≤ 8) : ∀ k, k ≤ 4 → rowsN S k ≤ k * 4096
  | 0, _ => Nat.zero_le _
  | k + 1, h => by
    have h1 := rowsN_small hS k (by omega)
    have h2 := pow_small hS h
    show rowsN S k + S ^ (k + 1) ≤ _
    omega
section
variable {P : Program} {w : World} {K : PySem.W.Frag} {mg : PySem.Str → Option Value} {base : Heap}
def spRows : Sp := fun vs H Q _ => ∃ (S m : Nat), vs = [.int (Int.ofNat S), .int (Int.ofNat m)] ∧ S ≤ 8 ∧ m ≤ 3 ∧ ∀ H' f as, Same H H' → H f = none → H' f = some (.lst (List.map V.ref as)) → as.length = rowsN S m → (∀ t ∈ as, RO H' S 1 m t) → Q (.ref f) H'
theorem ok_law_rows (Z : Defs K mg) : FnOk P w K mg base CX0 1 Z.law_rows.f Z.law_rows.fd ["_law_sounds", "_law_most"] spRows := by
  refine Z.law_rows.F.ok sc_law_rows (fun vs H Q E h => ?_) (fun cdv A outer s H vs Q E hr h => ?_)
  · obtain ⟨S, m, rfl, _⟩ := h
    rfl
  · obtain ⟨S, m, rfl, S8, m3, q⟩ := h
    refine ⟨_, (pss_cons (ps_set (i := 2) sc_law_rows.nd rfl (Or.inl rfl) (pe_lst pa_nil))
        (pss_cons (ps_set (i := 3) sc_law_rows.nd rfl (Or.inl rfl) (pe_lst (pa_cons pe_nilR pa_nil)))
        (pss_cons (ps_for PassesOwn.never rfl (pi_range1 rfl Z.b_range (pa_cons (pv 1) pa_nil)) (pg_name (i := 4) sc_law_rows.nd rfl (Or.inl rfl))
        (pss_cons (ps_set (i := 5) sc_law_rows.nd rfl (Or.inl rfl) (pe_lst pa_nil))
          (pss_cons (ps_for PassesOwn.never rfl (pi_list (pv 3)) (pg_name (i := 6) sc_law_rows.nd rfl (Or.inr rfl))
          (pss_one (ps_expr (pe_bm PySem.F.plainAttrs_list PySem.F.slot_list_extend PySem.F.type_list_extend mt_extend (pv 5) (pa_cons (pe_lc (own := [("_law_sound", 7)]) (g := gName 7) (by rfl) sc_law_rows.nd (pi_range1 rfl Z.b_range (pa_cons (pv 0) pa_nil)) (blkOk_by (own := [("_law_sound", 7)]) (N := ["_law_sounds", "_law_most", "_law_found", "_law_last", "_law_k", "_law_longer", "_law_row", "_law_sound"]) (sc := defScope s_law_rows) (by decide +kernel)) (fun _ _ _ _ _ => (pg_name (i := 7) sc_law_rows.nd rfl (Or.inl rfl))) (fun _ _ _ _ _ => pts_nil) (fun _ _ _ _ _ => (pe_op op_catR (pv 6) (pe_oneR (pv 7))))) pa_nil)))))
          (pss_cons (ps_expr (pe_bm PySem.F.plainAttrs_list PySem.F.slot_list_extend PySem.F.type_list_extend mt_extend (pv 2) (pa_cons (pv 5) pa_nil)))
          (pss_one (ps_set (i := 3) sc_law_rows.nd rfl (Or.inl rfl) (pv 5)))))))
        (pss_one (ps_ret (pv 2)))))), ?_⟩
    -- found = []; last = [()]
    refine ⟨Nat.zero_le _, fun f hf => ?_⟩
    have s1 : Same H (upd H f (.lst [])) := same_new hf
    have f1 : (upd H f (.lst [])) f = some (.lst (List.map V.ref [])) := upd_same
    generalize upd H f (.lst []) = H1 at s1 f1 ⊢
    refine fun p0 H2 s2 e2 => ⟨(by show 1 ≤ sizeLine; decide), fun l hl => ?_⟩
    have s12 := s1.trans s2
    have s3 : Same H2 (upd H2 l (.lst [V.ref p0])) := same_new hl
    have l3 : (upd H2 l (.lst [V.ref p0])) l = some (.lst (List.map V.ref [p0])) := upd_same
    have fl : f ≠ l := ne_of_none (s2 _ _ f1) hl
    generalize upd H2 l (.lst [V.ref p0]) = H3 at s3 l3 ⊢
    have s13 := s12.trans s3
    -- for k in range(most)
    refine ⟨_, rfl, _, rfl, ?_, ?_, ?_⟩
    · show -(2 ^ 62) ≤ (m : Int)
      omega
    · show (m : Int) < 2 ^ 62
      omega
    refine for_range (lo := 0) (n := m) (fun j σ H' => ∃ (l : Addr) (as ls : List Addr) (v4 v5 v6 : Option V), σ = [some (.int (Int.ofNat S)), some (.int (Int.ofNat m)), some (.ref f), some (.ref l), v4, v5, v6, none] ∧ Same H H' ∧ H' f = some (.lst (List.map V.ref as)) ∧ H' l = some (.lst (List.map V.ref ls)) ∧ f ≠ l ∧ as.length = rowsN S j ∧ ls.length = S ^ j ∧ (∀ t ∈ as, RO H' S 1 m t) ∧ ∀ t ∈ ls, RO H' S j j t) ⟨l, [], [p0], none, none, none, rfl, s13, s3 _ _ (s2 _ _ f1), l3, fl, rfl, rfl, fun t ht => absurd ht List.not_mem_nil, fun t ht => ?_⟩ ?_ ?_
    · rw [List.mem_singleton.mp ht]
      exact ⟨[], e2.same s3, fun z hz => absurd hz List.not_mem_nil, Nat.le_refl _, Nat.le_refl _⟩
    · rintro j σ H4 hj ⟨l, as, ls, v4, v5, v6, rfl, s4, f4, l4, fl, la, ll, ra, rl⟩
      -- longer = []
      refine ⟨Nat.zero_le _, fun g hg => ?_⟩
      have s5 : Same H4 (upd H4 g (.lst [])) := same_new hg
      have g5 : (upd H4 g (.lst [])) g = some (.lst (List.map V.ref [])) := upd_same
      have fg : f ≠ g := ne_of_none f4 hg
      have lg : l ≠ g := ne_of_none l4 hg
      have f5 := s5 _ _ f4
      have l5 := s5 _ _ l4
      have g0 : H g = none := by
        cases z : H g with
        | none => rfl
        | some o => rw [s4 _ _ z] at hg; cases hg
      have sH5 := s4.trans s5
      have ra5 : ∀ t ∈ as, RO (upd H4 g (.lst [])) S 1 m t := fun t ht => (ra t ht).keep (Keeps.same s5)
      have rl5 : ∀ t ∈ ls, RO (upd H4 g (.lst [])) S j j t := fun t ht => (rl t ht).keep (Keeps.same s5)
      generalize upd H4 g (.lst []) = H5 at s5 g5 f5 l5 sH5 ra5 rl5 ⊢
      -- for row in last
      refine ⟨_, rfl, l, rfl, ⟨_, SqL.of l5⟩, ?_⟩
      refine for_list (K := K) (a := l) (xs := List.map V.ref ls) (fun i σ H' => ∃ (gs : List Addr) (v6 : Option V), σ = [some (.int (Int.ofNat S)), some (.int (Int.ofNat m)), some (.ref f), some (.ref l), some (.int (0 + (j : Int))), some (.ref g), v6, none] ∧ Same H H' ∧ Keeps H5 H' ∧ H' f = some (.lst (List.map V.ref as)) ∧ H' l = some (.lst (List.map V.ref ls)) ∧ H' g = some (.lst (List.map V.ref gs)) ∧ gs.length = i * S ∧ ∀ t ∈ gs, RO H' S (j + 1) (j + 1) t) ⟨[], v6, rfl, sH5, fun _ _ e _ => e, f5, l5, g5, (Nat.zero_mul _).symm, fun t ht => absurd ht List.not_mem_nil⟩ (fun i σ H' _ ⟨gs, v6, _, _, _, _, l6, _⟩ => SqL.of l6) ?_ ?_
      · rintro i x σ H6 hx ⟨gs, v6, rfl, s6, k6, f6, l6, g6, lgs, rg⟩
        rw [List.getElem?_map] at hx
        cases hz : ls[i]? with
        | none => rw [hz] at hx; cases hx
        | some t =>
        rw [hz] at hx
        cases hx
        have hil : i < ls.length := (List.getElem?_eq_some_iff.mp hz).1
        obtain ⟨r, er, ir, lr1, lr2⟩ := (rl5 t (List.mem_of_getElem? hz)).keep k6
        -- longer.extend([row + (sound,) for sound in range(sounds)])
        refine ⟨_, rfl, .inl ⟨rfl, _, SqL.of g6⟩, _, rfl, _, rfl, ?_, ?_, fun D hD => ?_⟩
        · show -(2 ^ 62) ≤ (S : Int)
          omega
        · show (S : Int) < 2 ^ 62
          omega
        refine lc_range (lo := 0) (n := S) (fun u H' => Same H6 H' ∧ ∃ bs : List Addr, H' D = some (.lst (List.map V.ref bs)) ∧ bs.length = u ∧ ∀ t ∈ bs, RO H' S (j + 1) (j + 1) t) ⟨same_new hD, [], upd_same, rfl, fun t ht => absurd ht List.not_mem_nil⟩ ?_ ?_
        · rintro u H7 hu ⟨s7, bs, d7, lb, rb⟩
          refine ⟨rfl, _, rfl, _, rfl, 0 + (u : Int), rfl, fun y H8 s8 e8 => ⟨t, y, r, [0 + (u : Int)], rfl, rfl, (er.same s7).same s8, e8, line20000 (by show r.length + 1 ≤ 20000; omega), fun z H9 s9 e9 => ?_⟩⟩
          have d9 := s9 _ _ (s8 _ _ d7)
          have el : List.map V.ref bs ++ [V.ref z] = List.map V.ref (bs ++ [z]) := by rw [List.map_append]; rfl
          refine ⟨_, d9, ?_, Same.upd_fresh ((s7.trans s8).trans s9) hD, bs ++ [z], by rw [upd_same, el], by rw [List.length_append, lb]; rfl, fun t' ht' => ?_⟩
          · rw [List.length_map, lb]
            exact small1000 (by omega)
          rcases List.mem_append.mp ht' with h' | h'
          · exact (((rb t' h').keep (Keeps.same s8)).keep (Keeps.same s9)).keep (Keeps.lst d9)
          · rw [List.mem_singleton.mp h']
            refine ⟨r ++ [0 + (u : Int)], e9.keep (Keeps.lst d9), ir.app fun z hz => ?_, ?_, ?_⟩
            · rw [List.mem_singleton.mp hz]
              omega
            · rw [List.length_append]
              show j + 1 ≤ r.length + 1
              omega
            · rw [List.length_append]
              show r.length + 1 ≤ j + 1
              omega
        rintro H7 ⟨s7, bs, d7, lb, rb⟩
        have g7 := s7 _ _ g6
        have hD6 : D ≠ g := (ne_of_none g6 hD).symm
        refine ⟨g, D, _, _, rfl, rfl, g7, d7, ?_, ?_⟩
        · rw [List.length_map, List.length_map, lgs, lb]
          have h1 : i * S + S ≤ 4096 * 8 := by
            rw [← Nat.succ_mul]
            exact Nat.mul_le_mul (Nat.le_trans hil (by rw [ll]; exact pow_small S8 (by omega))) S8
          exact Nat.le_trans h1 (by decide)
        have el : List.map V.ref gs ++ List.map V.ref bs = List.map V.ref (gs ++ bs) := by rw [List.map_append]
        rw [el]
        refine ⟨gs ++ bs, some (.ref t), rfl, Same.upd_fresh (s6.trans s7) g0, fun b o e ht => Keeps.lst g7 b o (s7 b o (k6 b o e ht)) ht, by rw [upd_ne fg]; exact s7 _ _ f6, by rw [upd_ne lg]; exact s7 _ _ l6, upd_same, ?_, fun t' ht' => ?_⟩
        · rw [List.length_append, lgs, lb, Nat.succ_mul]
        · rcases List.mem_append.mp ht' with h' | h'
          · exact ((rg t' h').keep (Keeps.same s7)).keep (Keeps.lst g7)
          · exact (rb t' h').keep (Keeps.lst g7)
      rintro σ H6 ⟨gs, v6, rfl, s6, k6, f6, l6, g6, lgs, rg⟩
      rw [List.length_map, ll] at lgs
      -- found.extend(longer)
      refine ⟨_, rfl, .inl ⟨rfl, _, SqL.of f6⟩, _, rfl, f, g, _, _, rfl, rfl, f6, g6, ?_, ?_⟩
      · rw [List.length_map, List.length_map, la, lgs]
        have h1 := rowsN_small S8 j (by omega)
        have h2 := pow_small (S := S) (k := j + 1) S8 (by omega)
        rw [Nat.pow_succ] at h2
        exact Nat.le_trans (show rowsN S j + S ^ j * S ≤ 20000 by omega) (by decide)
      have el : List.map V.ref as ++ List.map V.ref gs = List.map V.ref (as ++ gs) := by rw [List.map_append]
      rw [el]
      refine ⟨_, rfl, g, as ++ gs, gs, _, _, _, rfl, Same.upd_fresh s6 hf, upd_same, by rw [upd_ne fg.symm]; exact g6, fg, ?_, ?_, fun t ht => ?_, fun t ht => (rg t ht).keep (Keeps.lst f6)⟩
      · rw [List.length_append, la, lgs]
        show _ = rowsN S j + S ^ (j + 1)
        rw [Nat.pow_succ]
      · rw [lgs, Nat.pow_succ]
      · rcases List.mem_append.mp ht with h' | h'
        · exact ((ra5 t h').keep k6).keep (Keeps.lst f6)
        · obtain ⟨r, h1, h2, h3, h4⟩ := (rg t h').keep (Keeps.lst f6)
          exact ⟨r, h1, h2, by omega, by omega⟩
    · rintro σ H4 ⟨l, as, ls, v4, v5, v6, rfl, s4, f4, l4, fl, la, ll, ra, rl⟩
      exact ⟨_, rfl, q H4 f as s4 hf f4 la ra⟩
end
end K98
/-! The law's book. -/
namespace K98
open PySem PySem.Spec PyProof.Rows L2
theorem HandAt.keeps {H H' : Hp} {hp cp : Addr} (h : HandAt H hp cp) (s : SameBut hp H H') : Keeps H H' := by
  obtain ⟨xs, e⟩ := h.lst
  exact Keeps.but e rfl s
theorem TDict.hand {P : Program} {w : World} {H H' : Hp} {hp cp d : Addr} {t : Tbl} (x : TDict P w H d t) (h : HandAt H hp cp) (s : SameBut hp H H') : TDict P w H' d t := by
  obtain ⟨xs, e⟩ := h.lst
  obtain ⟨kvs, ⟨ys, hd, r, nd, z⟩, tv⟩ := x
  have n : d ≠ hp := ne_of hd e (fun z => nomatch z)
  exact ⟨kvs, ⟨ys, s _ _ hd n, NT.keep r (h.keeps s), nd, z⟩, TVs.keep tv (h.keeps s)⟩
theorem BookAt.hand {P : Program} {w : World} {C : Addr} {H H' : Hp} {hp cp p : Addr} {S a b : Nat} {T : K2 → K2} (x : BookAt P w C H p S a b T) (h : HandAt H hp cp) (s : SameBut hp H H') : BookAt P w C H' p S a b T := by
  obtain ⟨xs, e⟩ := h.lst
  exact x.but e (fun _ _ _ _ _ _ z => nomatch z) (fun _ z => nomatch z) rfl s
theorem WordAt.hand {P : Program} {w : World} {C : Addr} {H H' : Hp} {hp cp p x : Addr} {S a b : Nat} {T : K2 → K2} {r : Row} (z : WordAt P w C H p x S a b T r) (h : HandAt H hp cp) (s : SameBut hp H H') : WordAt P w C H' p x S a b T r :=
  ⟨z.bk.hand h s, z.row.keep (h.keeps s), z.sd, z.w1, z.w2⟩
section
variable {P : Program} {w : World} {K : PySem.W.Frag} {mg : PySem.Str → Option Value} {base : Heap}
/-- tuple([draw for k in row]): so many sounds drawn -/
def Drawn (hp cp : Addr) (S : Nat) (H3 : Hp) (n : Nat) (D : Addr) (H' : Hp) : Prop := SameBut hp H3 H' ∧ HandAt H' hp cp ∧ ∃ cs : Row, H' D = some (.lst (vr cs)) ∧ cs.length = n ∧ InS (S : Int) cs
def spBookL (P : Program) (w : World) : Sp := fun vs H Q _ => ∃ (hp cp : Addr) (S a b o : Nat), vs = [.ref hp, .int (Int.ofNat S), .int (Int.ofNat a), .int (Int.ofNat b), .int (Int.ofNat o)] ∧ HandAt H hp cp ∧ 1 ≤ S ∧ S ≤ 8 ∧ a ≤ 3 ∧ b ≤ 3 ∧ rowsN S a * rowsN S b ≤ 1000 ∧ 0 < o ∧ o ≤ 2 ∧
  ∀ H' d t, SameBut hp H H' → H d = none → HandAt H' hp cp → TDict P w H' d t → t.length ≤ 1000 → (∀ e ∈ t, EntOk (S : Int) a b e) → Q (.ref d) H'
theorem ok_law_book (Z : Defs K mg) : FnOk P w K mg base CX0 2 Z.law_book.f Z.law_book.fd ["_law_hand_here", "_law_sounds", "_law_ahead", "_law_behind", "_law_often"] (spBookL P w) := by
  refine Z.law_book.F.ok sc_law_book (fun vs H Q E h => ?_) (fun cdv A outer s H vs Q E hr h => ?_)
  · obtain ⟨hp, cp, S, a, b, o, rfl, _⟩ := h
    rfl
  · obtain ⟨hp, cp, S, a, b, o, rfl, HA, S1, S8, a3, b3, hN, o1, o2, q⟩ := h
    have pS : S < 2 ^ 200 := Nat.lt_of_le_of_lt S8 (by decide)
    have po : o < 2 ^ 200 := Nat.lt_of_le_of_lt o2 (by decide)
    refine ⟨_, (pss_cons (ps_set (i := 5) sc_law_book.nd rfl (Or.inl rfl) (pe_nnew pairS))
        (pss_cons (ps_for PassesOwn.never rfl (pi_list (pe_call (ok_law_rows (P := P) (w := w) Z) (hr.mono (by decide)) (by rfl) Z.law_rows.g Z.law_rows.F.kp Z.law_rows.b .nil pass0 (pa_cons (pv 1) (pa_cons (pv 2) pa_nil)))) (pg_name (i := 6) sc_law_book.nd rfl (Or.inl rfl))
        (pss_one (ps_for PassesOwn.never rfl (pi_list (pe_call (ok_law_rows (P := P) (w := w) Z) (hr.mono (by decide)) (by rfl) Z.law_rows.g Z.law_rows.F.kp Z.law_rows.b .nil pass0 (pa_cons (pv 1) (pa_cons (pv 3) pa_nil)))) (pg_name (i := 7) sc_law_book.nd rfl (Or.inl rfl))
          (pss_one (ps_if (pt_cmpR op_eq (pe_call (ok_law_draw (P := P) (w := w) Z) (hr.mono (by decide)) (by rfl) Z.law_draw.g Z.law_draw.F.kp Z.law_draw.b .nil pass0 (pa_cons (pv 0) (pa_cons (pv 4) pa_nil))) pe_int (nomark _))
            (pss_cons (ps_set (i := 8) sc_law_book.nd rfl (Or.inl rfl) (pe_callTy call_tuple_row (by rfl) Z.b_tuple (by decide +kernel) (pa_cons (pe_lc (own := [("_law_k", 9)]) (g := gName 9) (by rfl) sc_law_book.nd (pi_tup (pv 6)) (blkOk_by (own := [("_law_k", 9)]) (N := ["_law_hand_here", "_law_sounds", "_law_ahead", "_law_behind", "_law_often", "_law_table", "_law_left", "_law_right", "_law_new_left", "_law_k"]) (sc := defScope s_law_book) (by decide +kernel)) (fun _ _ _ _ _ => (pg_name (i := 9) sc_law_book.nd rfl (Or.inl rfl))) (fun _ _ _ _ _ => pts_nil) (fun _ _ _ _ _ => (pe_call (ok_law_draw (P := P) (w := w) Z) (hr.mono (by decide)) (by rfl) Z.law_draw.g Z.law_draw.F.kp Z.law_draw.b .nil pass0 (pa_cons (pv 0) (pa_cons (pv 1) pa_nil))))) pa_nil)))
              (pss_one (ps_nput pairS hr.units (pv 5) (pe_pairR (pv 6) (pv 7)) (pe_pairR (pv 8) (pe_callTy call_tuple_row (by rfl) Z.b_tuple (by decide +kernel) (pa_cons (pe_lc (own := [("_law_k", 9)]) (g := gName 9) (by rfl) sc_law_book.nd (pi_tup (pv 7)) (blkOk_by (own := [("_law_k", 9)]) (N := ["_law_hand_here", "_law_sounds", "_law_ahead", "_law_behind", "_law_often", "_law_table", "_law_left", "_law_right", "_law_new_left", "_law_k"]) (sc := defScope s_law_book) (by decide +kernel)) (fun _ _ _ _ _ => (pg_name (i := 9) sc_law_book.nd rfl (Or.inl rfl))) (fun _ _ _ _ _ => pts_nil) (fun _ _ _ _ _ => (pe_call (ok_law_draw (P := P) (w := w) Z) (hr.mono (by decide)) (by rfl) Z.law_draw.g Z.law_draw.F.kp Z.law_draw.b .nil pass0 (pa_cons (pv 0) (pa_cons (pv 1) pa_nil))))) pa_nil))) rfl)))
            pss_nil)))))
        (pss_one (ps_ret (pv 5))))), ?_⟩
    -- table = {}
    refine fun d hd => ?_
    have s1 : Same H (upd H d (dN pairS P w d [])) := same_new hd
    have t1 : TDict P w (upd H d (dN pairS P w d [])) d [] := ⟨[], NDict.new, .nil⟩
    have hHd : ∃ H1, H1 = upd H d (dN pairS P w d []) := ⟨_, rfl⟩
    -- for left in rows(sounds, ahead)
    refine ⟨_, rfl, _, rfl, S, a, rfl, S8, a3, fun H2 lf as s2 hlf h2 la ra => ?_⟩
    have t2 := t1.same s2
    have s12 := s1.trans s2
    have HA2 := HA.same s12
    obtain ⟨xs0, hx0⟩ := HA.lst
    have ndp : d ≠ hp := (ne_of_none hx0 hd).symm
    have nlp : lf ≠ hp := (ne_of_none (s1 _ _ hx0) hlf).symm
    have nld : lf ≠ d := (ne_of_none upd_same hlf).symm
    clear hHd t1 s1
    refine ⟨lf, rfl, ⟨_, SqL.of h2⟩, ?_⟩
    refine for_list (K := K) (a := lf) (xs := List.map V.ref as) (fun i σ H' => ∃ v6 v7 v8, σ = [some (.ref hp), some (.int (Int.ofNat S)), some (.int (Int.ofNat a)), some (.int (Int.ofNat b)), some (.int (Int.ofNat o)), some (.ref d), v6, v7, v8, none] ∧ SameBut hp H H' ∧ HandAt H' hp cp ∧ H' lf = some (.lst (List.map V.ref as)) ∧ Keeps H2 H' ∧ ∃ t, TDict P w H' d t ∧ t.length ≤ i * rowsN S b ∧ ∀ e ∈ t, EntOk (S : Int) a b e) ⟨none, none, none, rfl, SameBut.of s12, HA2, h2, fun _ _ e _ => e, [], t2, Nat.zero_le _, fun e he => absurd he List.not_mem_nil⟩ (fun i σ H' _ ⟨v6, v7, v8, _, _, _, h3, _⟩ => SqL.of h3) ?_ ?_
    · rintro i x σ H3 hx ⟨v6, v7, v8, rfl, sb3, HA3, l3, k3, t, t3, lt3, et3⟩
      rw [List.getElem?_map] at hx
      cases hz : as[i]? with
      | none => rw [hz] at hx; cases hx
      | some xl =>
      rw [hz] at hx
      cases hx
      have hil : i < as.length := (List.getElem?_eq_some_iff.mp hz).1
      obtain ⟨rl, el, il, ll1, ll2⟩ := (ra xl (List.mem_of_getElem? hz)).keep k3
      -- for right in rows(sounds, behind)
      refine ⟨_, rfl, _, rfl, S, b, rfl, S8, b3, fun H4 rf bs s4 hrf h4 lb rb => ?_⟩
      obtain ⟨xs3, hx3⟩ := HA3.lst
      have nrp : rf ≠ hp := (ne_of_none hx3 hrf).symm
      have nrl : rf ≠ lf := (ne_of_none l3 hrf).symm
      have nrd : rf ≠ d := by
        obtain ⟨_, ⟨_, hdd, _⟩, _⟩ := t3
        exact (ne_of_none hdd hrf).symm
      refine ⟨rf, rfl, ⟨_, SqL.of h4⟩, ?_⟩
      refine for_list (K := K) (a := rf) (xs := List.map V.ref bs) (fun j σ H' => ∃ v7 v8, σ = [some (.ref hp), some (.int (Int.ofNat S)), some (.int (Int.ofNat a)), some (.int (Int.ofNat b)), some (.int (Int.ofNat o)), some (.ref d), some (.ref xl), v7, v8, none] ∧ SameBut hp H H' ∧ HandAt H' hp cp ∧ H' lf = some (.lst (List.map V.ref as)) ∧ H' rf = some (.lst (List.map V.ref bs)) ∧ Keeps H4 H' ∧ ∃ t, TDict P w H' d t ∧ t.length ≤ i * rowsN S b + j ∧ ∀ e ∈ t, EntOk (S : Int) a b e) ⟨v7, v8, rfl, sb3.same s4, HA3.same s4, s4 _ _ l3, h4, fun _ _ e _ => e, t, t3.same s4, lt3, et3⟩ (fun j σ H' _ ⟨v7, v8, _, _, _, _, h5, _⟩ => SqL.of h5) ?_ ?_
      · rintro j y σ H5 hy ⟨v7, v8, rfl, sb5, HA5, l5, r5, k5, t', t5, lt5, et5⟩
        rw [List.getElem?_map] at hy
        cases hw : bs[j]? with
        | none => rw [hw] at hy; cases hy
        | some xr =>
        rw [hw] at hy
        cases hy
        have hjl : j < bs.length := (List.getElem?_eq_some_iff.mp hw).1
        obtain ⟨rr, er, ir, lr1, lr2⟩ := (rb xr (List.mem_of_getElem? hw)).keep k5
        have el5 := (el.same s4).keep k5
        have hlen : t'.length + 1 ≤ 1000 := by
          have h1 : (i + 1) * rowsN S b ≤ as.length * rowsN S b := Nat.mul_le_mul_right _ hil
          rw [la] at h1
          rw [Nat.succ_mul] at h1
          rw [lb] at hjl
          omega
        -- if draw(hand, often) == 0
        refine ⟨_, rfl, _, rfl, hp, cp, o, rfl, HA5, o1, po, fun H6 r6 sb6 HA6 hr6 => ⟨rfl, _, rfl, ite2 (fun e0 => ?_) (fun e0 => ?_)⟩⟩
        · have k56 := HA5.keeps sb6
          have t6 := t5.hand HA5 sb6
          have el6 := el5.keep k56
          have er6 := er.keep k56
          have l6 := sb6 _ _ l5 nlp
          have rf6 := sb6 _ _ r5 nrp
          have sbA := sb5.trans sb6
          -- new_left
          refine ⟨_, rfl, xl, rfl, ⟨_, el6.sq⟩, fun D hD => ?_⟩
          obtain ⟨nDp, nDc⟩ := HA6.new hD
          refine lc_tup (K := K) (a := xl) (xs := vr rl) (fun n H' => Drawn hp cp S H6 n D H') ⟨SameBut.of (same_new hD), HA6.same (same_new hD), [], upd_same, rfl, fun z hz => absurd hz List.not_mem_nil⟩ (fun n H' _ h' => (el6.keep (HA6.keeps h'.1)).sq) ?_ ?_
          · rintro n z H7 hz7 ⟨sb7, HA7, cs, d7, lc, ic⟩
            have hn : n < rl.length := by
              have := (List.getElem?_eq_some_iff.mp hz7).1
              rw [vr_len] at this
              exact this
            refine ⟨rfl, _, rfl, _, rfl, hp, cp, S, rfl, HA7, S1, pS, fun H8 r8 sb8 HA8 hr8 => ⟨_, sb8 _ _ d7 nDp, ?_, ?_⟩⟩
            · rw [vr_len, lc]
              exact small1000 (by omega)
            · refine ⟨SameBut.upd_fresh (sb7.trans sb8) hD, ?_, cs ++ [(r8 : Int)], ?_, by rw [List.length_append, lc]; rfl, ic.app fun z hz => ?_⟩
              · exact HA8.upd nDp nDc
              · rw [upd_same]
                unfold vr
                rw [List.map_append]
                rfl
              · rw [List.mem_singleton.mp hz]
                omega
          rintro H7 ⟨sb7, HA7, cs, d7, lc, ic⟩
          rw [vr_len] at lc
          refine ⟨D, cs, rfl, SqL.of d7, fun pl H8 s8 epl => ?_⟩
          have HA8 := HA7.same s8
          have k68 : Keeps H6 H8 := fun b' o' e' ht' => s8 b' o' (HA6.keeps sb7 b' o' e' ht')
          have el8 := el6.keep k68
          have er8 := er6.keep k68
          have t8 := (t6.hand HA6 sb7).same s8
          have sb68 := sb7.same s8
          -- table[left, right] = (new_left, tuple([..]))
          refine ⟨_, rfl, _, rfl, xr, rfl, ⟨_, er8.sq⟩, fun D2 hD2 => ?_⟩
          obtain ⟨nEp, nEc⟩ := HA8.new hD2
          refine lc_tup (K := K) (a := xr) (xs := vr rr) (fun n H' => Drawn hp cp S H8 n D2 H') ⟨SameBut.of (same_new hD2), HA8.same (same_new hD2), [], upd_same, rfl, fun z hz => absurd hz List.not_mem_nil⟩ (fun n H' _ h' => (er8.keep (HA8.keeps h'.1)).sq) ?_ ?_
          · rintro n z H9 hz9 ⟨sb9, HA9, cs2, d9, lc2, ic2⟩
            have hn : n < rr.length := by
              have := (List.getElem?_eq_some_iff.mp hz9).1
              rw [vr_len] at this
              exact this
            refine ⟨rfl, _, rfl, _, rfl, hp, cp, S, rfl, HA9, S1, pS, fun H10 r10 sb10 HA10 hr10 => ⟨_, sb10 _ _ d9 nEp, ?_, ?_⟩⟩
            · rw [vr_len, lc2]
              exact small1000 (by omega)
            · refine ⟨SameBut.upd_fresh (sb9.trans sb10) hD2, HA10.upd nEp nEc, cs2 ++ [(r10 : Int)], ?_, by rw [List.length_append, lc2]; rfl, ic2.app fun z hz => ?_⟩
              · rw [upd_same]
                unfold vr
                rw [List.map_append]
                rfl
              · rw [List.mem_singleton.mp hz]
                omega
          rintro H9 ⟨sb9, HA9, cs2, d9, lc2, ic2⟩
          rw [vr_len] at lc2
          refine ⟨D2, cs2, rfl, SqL.of d9, fun pr H10 s10 epr => ?_⟩
          have k810 : Keeps H8 H10 := fun b' o' e' ht' => s10 b' o' (HA8.keeps sb9 b' o' e' ht')
          refine ⟨pl, pr, cs, cs2, rfl, epl.keep k810, epr, fun pv H11 s11 epv => ?_⟩
          refine ⟨_, rfl, _, rfl, _, rfl, xl, xr, rl, rr, rfl, (el8.keep k810).same s11, (er8.keep k810).same s11, fun pk H12 s12 epk => ?_⟩
          have HA12 := ((HA9.same s10).same s11).same s12
          have sb12 : SameBut hp H6 H12 := (((sb68.trans sb9).same s10).same s11).same s12
          have t12 := (((t8.hand HA8 sb9).same s10).same s11).same s12
          obtain ⟨kvs, n12, tv12⟩ := t12
          have hkl : kvs.length = t'.length := Paired.length tv12
          refine ⟨d, pk, (rl, rr), kvs, rfl, rfl, n12, epk, small1000 (by omega), fun H13 hys n13 => ?_⟩
          obtain ⟨ys, eH⟩ := hys
          obtain ⟨xs12, hd12, _⟩ := id n12
          have k13 : Keeps H12 H13 := by rw [eH]; exact Keeps.upd hd12 rfl
          have ndc : d ≠ cp := by
            obtain ⟨zs, hzs⟩ := HA12.cel
            exact ne_of hd12 hzs (fun z => nomatch z)
          have HA13 : HandAt H13 hp cp := by rw [eH]; exact HA12.upd ndp ndc
          have sb13 : SameBut hp H H13 := by rw [eH]; exact SameBut.upd_fresh (sbA.trans sb12) hd
          have l13 : H13 lf = some (.lst (List.map V.ref as)) := by rw [eH, upd_ne nld]; exact sb12 _ _ l6 nlp
          have r13 : H13 rf = some (.lst (List.map V.ref bs)) := by rw [eH, upd_ne nrd]; exact sb12 _ _ rf6 nrp
          refine ⟨_, _, rfl, sb13, HA13, l13, r13, fun b' o' e' ht' => k13 b' o' (HA6.keeps sb12 b' o' (k56 b' o' (k5 b' o' e' ht') ht') ht') ht', putT t' (rl, rr) (cs, cs2), ⟨_, n13, TVs.put (TVs.keep tv12 k13) (rl, rr) (cs, cs2) ((epv.same s12).keep k13)⟩, ?_, fun e he => ?_⟩
          · have := putT_len t' (rl, rr) (cs, cs2)
            omega
          · rcases putT_mem he with h' | h'
            · exact et5 e h'
            · rw [h']
              exact ⟨il, ir, ic, ic2, ll1, lr1, ll2, lr2, lc, lc2⟩
        · refine ⟨_, _, rfl, sb5.trans sb6, HA6, sb6 _ _ l5 nlp, sb6 _ _ r5 nrp, fun b' o' e' ht' => HA5.keeps sb6 b' o' (k5 b' o' e' ht') ht', t', t5.hand HA5 sb6, by omega, et5⟩
      · rintro σ H5 ⟨v7, v8, rfl, sb5, HA5, l5, r5, k5, t', t5, lt5, et5⟩
        refine ⟨_, _, _, rfl, sb5, HA5, l5, fun b' o' e' ht' => k5 b' o' (s4 b' o' (k3 b' o' e' ht')) ht', t', t5, ?_, et5⟩
        rw [List.length_map, lb] at lt5
        rw [Nat.succ_mul]
        exact lt5
    · rintro σ H3 ⟨v6, v7, v8, rfl, sb3, HA3, l3, k3, t, t3, lt3, et3⟩
      rw [List.length_map, la] at lt3
      exact ⟨_, rfl, q H3 d t sb3 hd HA3 t3 (by omega) et3⟩
end
end K98
/-! The law's own saying: _law_met, _law_ends, _law_far_doubled. -/
namespace K98
open PySem PySem.Spec PyProof.Rows L2
theorem RowsAt.keep {H H' : Hp} {as : List Addr} {rs : List Row} (h : RowsAt H as rs) (s : Keeps H H') : RowsAt H' as rs := Paired.mapP h fun _ _ z => RowAt.keep z s
section
variable {P : Program} {w : World} {K : PySem.W.Frag} {mg : PySem.Str → Option Value} {base : Heap}
def spLMet (P : Program) (w : World) : Sp := fun vs H Q _ => ∃ (d x y : Addr) (a b : Nat) (t : Tbl) (S : Int) (r1 r2 : Row), vs = [.ref d, .int (Int.ofNat a), .int (Int.ofNat b), .ref x, .ref y] ∧ TDict P w H d t ∧ TOk S (look t) ∧ 1 ≤ a ∧ RowAt H x r1 ∧ RowAt H y r2 ∧ r1.length ≤ 10000 ∧ r2.length ≤ 10000 ∧ ∀ q H', Same H H' → RowAt H' q (met (look t) a b r1 r2) → Q (.ref q) H'
theorem ok_law_met (Z : Defs K mg) : FnOk P w K mg base CX0 1 Z.law_met.f Z.law_met.fd ["_law_table", "_law_ahead", "_law_behind", "_law_one", "_law_other"] (spLMet P w) := by
  refine Z.law_met.F.ok sc_law_met (fun vs H Q E h => ?_) (fun cdv A outer s H vs Q E hr h => ?_)
  · obtain ⟨d, x, y, a, b, t, S, r1, r2, rfl, _⟩ := h
    rfl
  · obtain ⟨d, x, y, a, b, t, S, r1, r2, rfl, hd, ok, a1, hx, hy, n1, n2, q⟩ := h
    refine ⟨_, (pss_cons (ps_set (i := 5) sc_law_met.nd rfl (Or.inl rfl) (pe_slice sl_row (pv 3) (po_some (pe_un un_neg (pv 1))) po_none))
        (pss_cons (ps_set (i := 6) sc_law_met.nd rfl (Or.inl rfl) (pe_slice sl_row (pv 4) po_none (po_some (pv 2))))
        (pss_cons (ps_set (i := 7) sc_law_met.nd rfl (Or.inl rfl) (pe_nget2 pairS hr.units (pv 0) (pe_pairR (pv 5) (pv 6)) (pe_pairR (pv 5) (pv 6)) ⟨rfl, rfl, rfl, rfl⟩))
        (pss_one (ps_ret (pe_op op_catR (pe_op op_catR (pe_op op_catR (pe_slice sl_row (pv 3) po_none (po_some (pe_op op_sub (pe_callB call_len_row (by rfl) Z.b_len PySem.boot_len (pa_cons (pv 3) pa_nil)) (pe_callB call_len_row (by rfl) Z.b_len PySem.boot_len (pa_cons (pv 5) pa_nil))))) (pe_ix ix_pair (pv 7) pe_int (fun _ _ => rfl))) (pe_ix ix_pair (pv 7) pe_int (fun _ _ => rfl))) (pe_slice sl_row (pv 4) (po_some (pe_callB call_len_row (by rfl) Z.b_len PySem.boot_len (pa_cons (pv 6) pa_nil))) po_none))))))), ?_⟩
    -- left = one[-ahead:]
    refine ⟨_, rfl, _, rfl, a, rfl, _, rfl, x, r1, rfl, hx, fun l H1 s1 e1 => ?_⟩
    rw [cutR_last _ _ a1] at e1
    -- right = other[:behind]
    refine ⟨_, rfl, _, rfl, b, rfl, y, r2, rfl, hy.same s1, fun r H2 s2 e2 => ?_⟩
    rw [cutR_upto] at e2
    have s12 := s1.trans s2
    -- told = table.get((left, right), (left, right))
    obtain ⟨kvs, n, tv⟩ := hd.same s12
    refine ⟨_, rfl, d, kvs, rfl, n.rd, _, rfl, _, rfl, l, r, lastN a r1, r2.take b, rfl, e1.same s2, e2, fun k1 H3 s3 e3 => ?_⟩
    refine ⟨_, rfl, _, rfl, l, r, lastN a r1, r2.take b, rfl, (e1.same s2).same s3, e2.same s3, fun k2 H4 s4 e4 => ?_⟩
    have s34 := s3.trans s4
    have s14 := s12.trans s34
    refine ⟨k1, (lastN a r1, r2.take b), kvs, rfl, (n.same s34).rd, e3.same s4, ?_⟩
    have hz : ∃ z, (valV kvs (lastN a r1, r2.take b)).getD (.ref k2) = .ref z ∧ PairAt H4 z (look t (lastN a r1, r2.take b)) := by
      rcases TVs.val tv (lastN a r1, r2.take b) with ⟨e, z⟩ | ⟨a', e, z⟩
      · rw [e]
        refine ⟨k2, rfl, ?_⟩
        rw [z]
        exact e4
      · rw [e]
        exact ⟨a', rfl, z.same s34⟩
    obtain ⟨z, ez, hpz⟩ := hz
    rw [ez]
    obtain ⟨u, v, hz0, hu, hv⟩ := id hpz
    -- one[: len(one) - len(left)]
    refine ⟨_, rfl, _, rfl, x, r1, rfl, hx.same s14, _, rfl, l, lastN a r1, rfl, ((e1.same s2).same s34), _, _, rfl, rfl, r1.length - min a r1.length, ?_, x, r1, rfl, hx.same s14, fun o1 H5 s5 e5 => ?_⟩
    · rw [lastN_len]
    have e6 : RowAt H5 o1 (r1.take (r1.length - a)) := by
      have : ((r1.length : Int) - ((min a r1.length : Nat) : Int)) = ((r1.length - a : Nat) : Int) := by omega
      rw [this, cutR_upto] at e5
      exact e5
    have L1 : (look t (lastN a r1, r2.take b)).1.length = (lastN a r1).length := ok.l1 _
    have L2 : (look t (lastN a r1, r2.take b)).2.length = (r2.take b).length := ok.l2 _
    have M1 : (lastN a r1).length ≤ r1.length := by rw [lastN_len]; omega
    have M2 : (r2.take b).length ≤ r2.length := by rw [List.length_take]; omega
    have M3 : (r1.take (r1.length - a)).length + (lastN a r1).length ≤ r1.length := by
      rw [List.length_take, lastN_len]
      omega
    have M4 : (r2.take b).length + (r2.drop b).length ≤ r2.length := by
      rw [List.length_take, List.length_drop]
      omega
    have hz5 := (s5 _ _ hz0)
    refine ⟨_, rfl, z, _, u, v, rfl, hz5, hu.same s5, hv.same s5, .inl ⟨rfl, ?_⟩⟩
    refine ⟨o1, u, _, _, rfl, rfl, e6, hu.same s5, ?_, fun o2 H6 s6 e7 => ?_⟩
    · rw [L1]
      exact line20000 (by omega)
    refine ⟨_, rfl, z, _, u, v, rfl, s6 _ _ hz5, (hu.same s5).same s6, (hv.same s5).same s6, .inr ⟨rfl, ?_⟩⟩
    refine ⟨o2, v, _, _, rfl, rfl, e7, (hv.same s5).same s6, ?_, fun o3 H7 s7 e8 => ?_⟩
    · rw [List.length_append, L1, L2]
      exact line20000 (by omega)
    have s27 := ((s34.trans s5).trans s6).trans s7
    refine ⟨_, rfl, _, rfl, r, r2.take b, rfl, e2.same s27, _, rfl, y, r2, rfl, (hy.same s12).same s27, fun u2 H8 s8 e9 => ?_⟩
    rw [cutR_from] at e9
    have e10 : RowAt H8 u2 (r2.drop b) := by
      have : r2.drop (r2.take b).length = r2.drop b := by
        rw [List.length_take]
        by_cases c : b ≤ r2.length
        · rw [Nat.min_eq_left c]
        · rw [Nat.min_eq_right (by omega), List.drop_length, List.drop_eq_nil_of_le (by omega)]
      rw [this] at e9
      exact e9
    refine ⟨o3, u2, _, _, rfl, rfl, e8.same s8, e10, ?_, fun o4 H9 s9 e11 => ?_⟩
    · rw [List.length_append, List.length_append, L1, L2]
      exact line20000 (by omega)
    refine q o4 H9 (((s12.trans s27).trans s8).trans s9) ?_
    have : met (look t) a b r1 r2 = r1.take (r1.length - a) ++ (look t (lastN a r1, r2.take b)).1 ++ (look t (lastN a r1, r2.take b)).2 ++ r2.drop b := by
      unfold met
      rw [List.append_assoc, List.append_assoc]
    rw [this]
    exact e11
def spLEnds : Sp := fun vs H Q _ => ∃ (x : Addr) (a b : Nat) (r : Row), vs = [.ref x, .int (Int.ofNat a), .int (Int.ofNat b)] ∧ 1 ≤ a ∧ RowAt H x r ∧ ∀ q H', Same H H' → PairAt H' q (ends a b r) → Q (.ref q) H'
theorem ok_law_ends (Z : Defs K mg) : FnOk P w K mg base CX0 1 Z.law_ends.f Z.law_ends.fd ["_law_row", "_law_ahead", "_law_behind"] spLEnds := by
  refine Z.law_ends.F.ok sc_law_ends (fun vs H Q E h => ?_) (fun cdv A outer s H vs Q E hr h => ?_)
  · obtain ⟨x, a, b, r, rfl, _⟩ := h
    rfl
  · obtain ⟨x, a, b, r, rfl, a1, hx, q⟩ := h
    refine ⟨_, (pss_one (ps_ret (pe_pairR (pe_slice sl_row (pv 0) po_none (po_some (pv 2))) (pe_slice sl_row (pv 0) (po_some (pe_un un_neg (pv 1))) po_none)))), ?_⟩
    refine ⟨_, rfl, _, rfl, (b : Int), rfl, x, r, rfl, hx, fun u H1 s1 e1 => ?_⟩
    rw [cutR_upto] at e1
    refine ⟨_, rfl, _, rfl, (a : Int), rfl, _, rfl, x, r, rfl, hx.same s1, fun v H2 s2 e2 => ?_⟩
    rw [cutR_last _ _ a1] at e2
    exact ⟨u, v, _, _, rfl, e1.same s2, e2, fun q0 H3 s3 hq => q q0 H3 ((s1.trans s2).trans s3) hq⟩
theorem gname_by {i : Nat} {x : V} {σ : L2.St} {H : Hp} {N : L2.St → Hp → Prop} (h : N (σ.set i (some x)) H) : gName i x σ H N := h
theorem any_rows (rs : List Row) (r : Row) : ((rs.map rD).any fun z => PyData.eqv z (rD r)) = decide (r ∈ rs) := by
  induction rs with
  | nil => simp
  | cons x xs ih =>
    rw [List.map_cons, List.any_cons, ih, rD_eqv]
    by_cases c : x = r
    · simp [c]
    · have : ¬ r = x := fun z => c z.symm
      simp [c, this]
def spFar (P : Program) (w : World) : Sp := fun vs H Q _ => ∃ (pp d x : Addr) (a b n : Nat) (t : Tbl) (S : Int) (r : Row), vs = [.ref pp, .ref x, .int (Int.ofNat n)] ∧ H pp = some (.tup [.ref d, .int (Int.ofNat a), .int (Int.ofNat b)]) ∧ TDict P w H d t ∧ TOk S (look t) ∧ 1 ≤ a ∧ a ≤ 4 ∧ 1 ≤ b ∧ b ≤ 4 ∧ RowAt H x r ∧ 1 ≤ r.length ∧ r.length ≤ 200 ∧
  ∀ q H', Same H H' → PairAt H' q (ends a b (dbl (look t) a b r n)) → Q (.ref q) H'
theorem ok_law_far_doubled (Z : Defs K mg) : FnOk P w K mg base CX0 2 Z.law_far_doubled.f Z.law_far_doubled.fd ["_law_parts", "_law_word", "_law_times"] (spFar P w) := by
  refine Z.law_far_doubled.F.ok sc_law_far_doubled (fun vs H Q E h => ?_) (fun cdv A outer s H vs Q E hr h => ?_)
  · obtain ⟨pp, d, x, a, b, n, t, S, r, rfl, _⟩ := h
    rfl
  · obtain ⟨pp, d, x, a, b, n, t, S, r, rfl, hpp, hd, tok, a1, a4, b1, b4, hx, r1, r2, q⟩ := h
    obtain ⟨cd, hcd⟩ : ∃ cd : Nat → Row, cd = cdb (look t) a b r := ⟨_, rfl⟩
    have cd0 : cd 0 = r := by rw [hcd]; rfl
    have cdS : ∀ k, cd (k + 1) = cut a b (met (look t) a b (cd k) (cd k)) := fun k => by rw [hcd]; rfl
    have cdL : ∀ k, (cd k).length ≤ 208 := fun k => by
      have := cdb_len_le (T := look t) (a := a) (b := b) (w := r) k
      rw [hcd]
      omega
    have cdT : cd 5 = cd 4 := by
      rw [hcd]
      exact cdb_stay tok r1 a1 (by omega) (Nat.le_refl 4)
    have cdE : ∀ k, ends a b (cd k) = ends a b (dbl (look t) a b r k) := fun k => by
      rw [hcd]
      exact cdb_ends tok k
    refine ⟨_, (pss_cons (ps_asg (pv 0) (pg_tup rfl (pgs_cons (pg_name (i := 3) sc_law_far_doubled.nd rfl (Or.inl rfl)) (pgs_cons (pg_name (i := 4) sc_law_far_doubled.nd rfl (Or.inl rfl)) (pgs_cons (pg_name (i := 5) sc_law_far_doubled.nd rfl (Or.inl rfl)) pgs_nil)))))
        (pss_cons (ps_set (i := 6) sc_law_far_doubled.nd rfl (Or.inl rfl) (pe_lst pa_nil))
        (pss_cons (ps_set (i := 7) sc_law_far_doubled.nd rfl (Or.inl rfl) (pv 1))
        (pss_cons (ps_while PassesOwn.never (pt_cmpR (op_notInD hr.units65) (pv 7) (pv 6) rfl)
        (pss_cons (ps_expr (pe_bm PySem.F.plainAttrs_list PySem.F.slot_list_append PySem.F.type_list_append mt_append (pv 6) (pa_cons (pv 7) pa_nil)))
          (pss_cons (ps_set (i := 7) sc_law_far_doubled.nd rfl (Or.inl rfl) (pe_call (ok_law_met (P := P) (w := w) Z) (hr.mono (by decide)) (by rfl) Z.law_met.g Z.law_met.F.kp Z.law_met.b .nil pass0 (pa_cons (pv 3) (pa_cons (pv 4) (pa_cons (pv 5) (pa_cons (pv 7) (pa_cons (pv 7) pa_nil)))))))
          (pss_one (ps_if (pt_cmpR op_gt (pe_callB call_len_row (by rfl) Z.b_len PySem.boot_len (pa_cons (pv 7) pa_nil)) (pe_op op_add (pv 4) (pv 5)) (nomark _))
          (pss_one (ps_set (i := 7) sc_law_far_doubled.nd rfl (Or.inl rfl) (pe_op op_catR (pe_slice sl_row (pv 7) po_none (po_some (pv 5))) (pe_slice sl_row (pv 7) (po_some (pe_un un_neg (pv 4))) po_none))))
          pss_nil)))))
        (pss_cons (ps_set (i := 8) sc_law_far_doubled.nd rfl (Or.inl rfl) (pe_bm PySem.F.plainAttrs_list PySem.F.slot_list_index PySem.F.type_list_index (mt_indexD hr.units65) (pv 6) (pa_cons (pv 7) pa_nil)))
        (pss_cons (ps_if (pt_cmpR op_ge (pv 2) (pe_callB call_len_seq (by rfl) Z.b_len PySem.boot_len (pa_cons (pv 6) pa_nil)) (nomark _))
        (pss_one (ps_set (i := 2) sc_law_far_doubled.nd rfl (Or.inl rfl) (pe_op op_add (pv 8) (pe_op op_mod (pe_op op_sub (pv 2) (pv 8)) (pe_op op_sub (pe_callB call_len_seq (by rfl) Z.b_len PySem.boot_len (pa_cons (pv 6) pa_nil)) (pv 8))))))
        pss_nil)
        (pss_one (ps_ret (pe_call (ok_law_ends (P := P) (w := w) Z) (hr.mono (by decide)) (by rfl) Z.law_ends.g Z.law_ends.F.kp Z.law_ends.b .nil pass0 (pa_cons (pe_ix ix_list (pv 6) (pv 2) (fun _ _ => rfl)) (pa_cons (pv 4) (pa_cons (pv 5) pa_nil)))))))))))), ?_⟩
    refine ⟨_, rfl, pp, _, rfl, SqT.of hpp, rfl, _, _, rfl, _, _, rfl, _, _, rfl, rfl, ?_⟩
    -- known = []; row = word
    refine ⟨Nat.zero_le _, fun kd hkd => ?_⟩
    have s1 : Same H (upd H kd (.lst [])) := same_new hkd
    have k1 : (upd H kd (.lst [])) kd = some (.lst (List.map V.ref [])) := upd_same
    have hx1 := hx.same s1
    generalize upd H kd (.lst []) = H1 at s1 k1 hx1 ⊢
    refine ⟨_, rfl, ?_⟩
    -- while row not in known
    refine ⟨fun m σ H' => ∃ (j : Nat) (as : List Addr) (x' : Addr), σ = [some (.ref pp), some (.ref x), some (.int (Int.ofNat n)), some (.ref d), some (.int (Int.ofNat a)), some (.int (Int.ofNat b)), some (.ref kd), some (.ref x'), none] ∧ Same H H' ∧ H' kd = some (.lst (List.map V.ref as)) ∧ RowsAt H' as ((List.range j).map cd) ∧ RowAt H' x' (cd j) ∧ (∀ i k, i < k → k < j → cd i ≠ cd k) ∧ m + j = 10, ⟨10, 0, [], x, rfl, s1, k1, .nil, by rw [cd0]; exact hx1, fun i k _ h2 => absurd h2 (Nat.not_lt_zero k), rfl⟩, ?_⟩
    rintro m σ H2 ⟨j, as, x', rfl, s2, k2, ra2, hx2, inj, hm⟩
    have j5 : j ≤ 5 := by
      refine Nat.le_of_not_lt fun h => ?_
      exact inj 4 5 (by omega) (by omega) cdT.symm
    have la : as.length = j := by
      have := Paired.length ra2
      rw [List.length_map, List.length_range] at this
      exact this
    have t2 := hd.same s2
    refine ⟨_, rfl, _, rfl, rD (cd j), ((List.range j).map cd).map rD, dp_row hx2, .lst (SqL.of k2) (dp_rows ra2), rD_shaped _, rsD_shaped _, ?_⟩
    rw [any_rows]
    by_cases hin : cd j ∈ (List.range j).map cd
    · rw [decide_eq_true hin]
      refine ⟨false, rfl, iteF ?_⟩
      obtain ⟨i, hi, ei⟩ := List.mem_map.mp hin
      have hij : i < j := List.mem_range.mp hi
      have hp : 0 < j - i := by omega
      -- back = known.index(row)
      have hds : ∀ k, k < j → (((List.range j).map cd).map rD)[k]? = some (rD (cd k)) := fun k hk => by
        rw [List.getElem?_map, List.getElem?_map, List.getElem?_range hk]
        rfl
      refine ⟨_, rfl, .inl ⟨rfl, _, SqL.of k2⟩, _, rfl, kd, _, rD (cd j), ((List.range j).map cd).map rD, i, rD (cd i), rfl, rfl, .lst (SqL.of k2) (dp_rows ra2), dp_row hx2, rsD_shaped _, rD_shaped _, hds i hij, by rw [rD_eqv, ei]; exact decide_eq_true rfl, fun k z hk hz => ?_, ?_⟩
      · rw [hds k (by omega)] at hz
        rw [← Option.some.inj hz, rD_eqv, ← ei]
        exact decide_eq_false (inj k i hk hij)
      refine gname_by ?_
      dsimp only
      refine seq_by (fun σ' H' => ∃ n', n' < j ∧ cd n' = cd n ∧ H' = H2 ∧ σ' = [some (.ref pp), some (.ref x), some (.int (Int.ofNat n')), some (.ref d), some (.int (Int.ofNat a)), some (.int (Int.ofNat b)), some (.ref kd), some (.ref x'), some (.int ((i : Nat) : Int))]) (fun N hN => ?_) ?_
      · refine ⟨_, rfl, _, rfl, kd, _, rfl, .inl (SqL.of k2), _, _, rfl, rfl, _, rfl, ite2 (fun e => ?_) (fun e => ?_)⟩
        · have e1 : j ≤ n := by
            have e0 : (((List.map V.ref as).length : Nat) : Int) ≤ Int.ofNat n := of_decide_eq_true e
            rw [List.length_map, la] at e0
            have e2 : (j : Int) ≤ (n : Int) := e0
            omega
          have hix := it_ix (f := cd) (g := fun z => cut a b (met (look t) a b z z)) cdS (i := i) (p := j - i) (by rw [show i + (j - i) = j by omega]; exact ei.symm) n
          have hlt := ixOf_lt (i := i) (n := n) hp
          have eix : ixOf i (j - i) n = i + (n - i) % (j - i) := by
            unfold ixOf
            rw [if_neg (by omega)]
          rw [eix] at hix hlt
          refine ⟨_, rfl, _, rfl, _, rfl, _, _, rfl, rfl, _, rfl, kd, _, rfl, .inl (SqL.of k2), _, rfl, _, _, rfl, rfl, Int.ofNat n - ((i : Nat) : Int), ((j - i : Nat) : Int), rfl, ?_, by omega, ((i : Nat) : Int), (Int.ofNat n - ((i : Nat) : Int)) % ((j - i : Nat) : Int), rfl, rfl, ?_⟩
          · show V.int (((List.map V.ref as).length : Int) - ((i : Nat) : Int)) = V.int ((j - i : Nat) : Int)
            rw [List.length_map, la]
            have : ((j : Nat) : Int) - ((i : Nat) : Int) = ((j - i : Nat) : Int) := by omega
            rw [this]
          refine hN _ _ ⟨i + (n - i) % (j - i), by omega, hix, rfl, ?_⟩
          have ei2 : ((i : Nat) : Int) + (Int.ofNat n - ((i : Nat) : Int)) % ((j - i : Nat) : Int) = Int.ofNat (i + (n - i) % (j - i)) := by
            have : (Int.ofNat n - ((i : Nat) : Int)) = ((n - i : Nat) : Int) := by
              show (n : Int) - (i : Int) = _
              omega
            rw [this]
            show _ = ((i + (n - i) % (j - i) : Nat) : Int)
            rw [Int.natCast_add, Int.natCast_emod]
          rw [← ei2]
          rfl
        · have e1 : n < j := by
            have e0 : ¬ (((List.map V.ref as).length : Nat) : Int) ≤ Int.ofNat n := fun z => e (decide_eq_true z)
            rw [List.length_map, la] at e0
            have e2 : ¬ (j : Int) ≤ (n : Int) := e0
            omega
          exact hN _ _ ⟨n, e1, rfl, rfl, rfl⟩
      rintro σ' H' ⟨n', hn', en', rfl, rfl⟩
      have hget : as[n']? = some as[n'] := List.getElem?_eq_getElem (by omega)
      have hrow : RowAt H' as[n'] (cd n') := by
        obtain ⟨z, hz1, hz2⟩ := paired_get ra2 hget
        rw [List.getElem?_map, List.getElem?_range hn'] at hz1
        cases hz1
        exact hz2
      refine ⟨_, rfl, _, rfl, kd, _, Int.ofNat n', _, rfl, rfl, SqL.of k2, atI_map hget, _, rfl, _, rfl, as[n'], a, b, cd n', rfl, a1, hrow, fun o H3 s3 e3 => ?_⟩
      rw [en', cdE] at e3
      exact q o H3 (s2.trans s3) e3
    · rw [decide_eq_false hin]
      refine ⟨true, rfl, iteT ?_⟩
      refine ⟨fun σ' H1 => ∃ m', m' < m ∧ _, fun σ' H1 h => h, ?_⟩
      -- known.append(row)
      refine ⟨_, rfl, .inl ⟨rfl, _, SqL.of k2⟩, _, rfl, kd, _, _, rfl, rfl, k2, ?_, ?_⟩
      · rw [List.length_map, la]
        exact Nat.lt_of_le_of_lt j5 (by decide)
      have el : List.map V.ref as ++ [V.ref x'] = List.map V.ref (as ++ [x']) := by rw [List.map_append]; rfl
      rw [el]
      have kp3 : Keeps H2 (upd H2 kd (.lst (List.map V.ref (as ++ [x'])))) := Keeps.lst k2
      have s3 : Same H (upd H2 kd (.lst (List.map V.ref (as ++ [x'])))) := Same.upd_fresh s2 hkd
      have k3 : (upd H2 kd (.lst (List.map V.ref (as ++ [x'])))) kd = some (.lst (List.map V.ref (as ++ [x']))) := upd_same
      have ra3 : RowsAt (upd H2 kd (.lst (List.map V.ref (as ++ [x'])))) (as ++ [x']) ((List.range (j + 1)).map cd) := by
        rw [List.range_succ, show List.map cd (List.range j ++ [j]) = List.map cd (List.range j) ++ [cd j] from List.map_append]
        exact Paired.snoc (ra2.keep kp3) (hx2.keep kp3)
      have hx3 := hx2.keep kp3
      generalize upd H2 kd (.lst (List.map V.ref (as ++ [x']))) = H3 at s3 k3 ra3 hx3 ⊢
      have inj3 : ∀ i k, i < k → k < j + 1 → cd i ≠ cd k := fun i k h1 h2 => by
        by_cases c : k = j
        · rw [c]
          intro z
          exact hin (List.mem_map.mpr ⟨i, List.mem_range.mpr (by omega), z⟩)
        · exact inj i k h1 (by omega)
      -- row = _law_met(table, ahead, behind, row, row)
      have L0 := cdL j
      refine ⟨_, rfl, _, rfl, _, rfl, _, rfl, _, rfl, d, x', x', a, b, t, S, cd j, cd j, rfl, hd.same s3, tok, a1, hx3, hx3, by omega, by omega, fun u H4 s4 e4 => ?_⟩
      -- if len(row) > ahead + behind
      have lm := met_len (a := a) (b := b) tok (cd j) (cd j)
      refine ⟨_, rfl, u, _, rfl, e4, _, rfl, _, rfl, _, _, rfl, rfl, _, _, rfl, rfl, _, rfl, ite2 (fun e => ?_) (fun e => ?_)⟩
      · have e1 : a + b < (met (look t) a b (cd j) (cd j)).length := by
          have e0 : Int.ofNat a + Int.ofNat b < (((met (look t) a b (cd j) (cd j)).length : Nat) : Int) := of_decide_eq_true e
          have e2 : (a : Int) + (b : Int) < (((met (look t) a b (cd j) (cd j)).length : Nat) : Int) := e0
          omega
        refine ⟨_, rfl, _, rfl, (b : Int), rfl, u, _, rfl, e4, fun v H5 s5 e5 => ?_⟩
        rw [cutR_upto] at e5
        refine ⟨_, rfl, _, rfl, (a : Int), rfl, _, rfl, u, _, rfl, e4.same s5, fun v2 H6 s6 e6 => ?_⟩
        rw [cutR_last _ _ a1] at e6
        refine ⟨v, v2, _, _, rfl, rfl, e5.same s6, e6, ?_, fun o H7 s7 e7 => ?_⟩
        · rw [List.length_take, lastN_len]
          exact line20000 (by omega)
        have s47 := ((s4.trans s5).trans s6).trans s7
        refine ⟨m - 1, by omega, j + 1, as ++ [x'], o, rfl, s3.trans s47, s47 _ _ k3, ra3.same s47, ?_, inj3, by omega⟩
        rw [cdS]
        unfold cut
        rw [if_pos e1]
        exact e7
      · have e1 : ¬ a + b < (met (look t) a b (cd j) (cd j)).length := fun z => e (decide_eq_true (by
          show (a : Int) + (b : Int) < _
          omega))
        refine ⟨m - 1, by omega, j + 1, as ++ [x'], u, rfl, s3.trans s4, s4 _ _ k3, ra3.same s4, ?_, inj3, by omega⟩
        rw [cdS]
        unfold cut
        rw [if_neg e1]
        exact e4
end
end K98
/-! The law: what it asks is so. -/
namespace K98
open PySem PySem.Spec PyProof.Rows L2
theorem gname_as {i : Nat} {x y : V} {σ : L2.St} {H : Hp} {N : L2.St → Hp → Prop} (e : x = y) (h : gName i y σ H N) : gName i x σ H N := by
  rw [e]
  exact h
/-- what the law has at hand -/
structure LawAt (P : Program) (w : World) (CB : Addr) (H : Hp) (hp cp d bk x : Addr) (S a b : Nat) (t : Tbl) (r : Row) : Prop where
  HA : HandAt H hp cp
  td : TDict P w H d t
  W : WordAt P w CB H bk x S a b (look t) r
  S1 : 1 ≤ S
section
variable {P : Program} {w : World} {CB : Addr} {H H' : Hp} {hp cp d bk x : Addr} {S a b : Nat} {t : Tbl} {r : Row}
theorem LawAt.same (h : LawAt P w CB H hp cp d bk x S a b t r) (s : Same H H') : LawAt P w CB H' hp cp d bk x S a b t r := ⟨h.HA.same s, h.td.same s, h.W.same s, h.S1⟩
theorem LawAt.draw (h : LawAt P w CB H hp cp d bk x S a b t r) (s : SameBut hp H H') (HA' : HandAt H' hp cp) : LawAt P w CB H' hp cp d bk x S a b t r := ⟨HA', h.td.hand h.HA s, h.W.hand h.HA s, h.S1⟩
end
theorem LawAt.lst {P : Program} {w : World} {CB : Addr} {H : Hp} {hp cp d bk x rh : Addr} {S a b : Nat} {t : Tbl} {r : Row} {xs ys : List V} (h : LawAt P w CB H hp cp d bk x S a b t r) (e : H rh = some (.lst xs)) (n1 : rh ≠ hp) (n2 : rh ≠ cp) : LawAt P w CB (L2.upd H rh (.lst ys)) hp cp d bk x S a b t r := by
  obtain ⟨HA, ⟨kvs, ⟨zs, hd, rt, nd, z⟩, tv⟩, W, S1⟩ := h
  have k := Keeps.lst (ys := ys) e
  have n : d ≠ rh := ne_of hd e (fun z => nomatch z)
  exact ⟨HA.upd n1 n2, ⟨kvs, ⟨zs, by rw [upd_ne n]; exact hd, NT.keep rt k, nd, z⟩, TVs.keep tv k⟩, ⟨W.bk.but e (fun _ _ _ _ _ _ z => nomatch z) (fun _ z => nomatch z) rfl SameBut.upd, W.row.keep k, W.sd, W.w1, W.w2⟩, S1⟩
/-- the rows said out so far -/
structure RowsL (T : K2 → K2) (a b : Nat) (r : Row) (H : Hp) (hp cp rh : Addr) (n : Nat) : Prop where
  ne : rh ≠ hp
  ne2 : rh ≠ cp
  ob : ∃ as : List Addr, H rh = some (.lst (List.map V.ref as)) ∧ as.length = n ∧ ∀ (i : Nat) (t : Addr), as[i]? = some t → RowAt H t (chn T a b r i)
section
variable {T : K2 → K2} {a b : Nat} {r : Row} {H H' : Hp} {hp rh cp : Addr} {n : Nat}
theorem RowsL.same (h : RowsL T a b r H hp cp rh n) (s : Same H H') : RowsL T a b r H' hp cp rh n := by
  obtain ⟨ne, n2, as, h1, h2, h3⟩ := h
  exact ⟨ne, n2, as, s _ _ h1, h2, fun i t e => (h3 i t e).same s⟩
theorem RowsL.draw (h : RowsL T a b r H hp cp rh n) (HA : HandAt H hp cp) (s : SameBut hp H H') : RowsL T a b r H' hp cp rh n := by
  obtain ⟨ne, n2, as, h1, h2, h3⟩ := h
  exact ⟨ne, n2, as, s _ _ h1 ne, h2, fun i t e => (h3 i t e).keep (HA.keeps s)⟩
end
theorem dbl_len_le {T : K2 → K2} {S : Int} {a b : Nat} {r : Row} (h : TOk S T) (k : Nat) : (dbl T a b r k).length = 2 ^ k * r.length := by
  induction k with
  | zero => exact (Nat.one_mul _).symm
  | succ k ih =>
    show (met T a b (dbl T a b r k) (dbl T a b r k)).length = _
    rw [met_len h, ih, Nat.pow_succ, Nat.mul_assoc, Nat.mul_comm 2, ← Nat.mul_assoc]
    omega
/-- the sizes that the law draws -/
def Sizes (S a b o : Nat) : Prop := 1 ≤ S ∧ S ≤ 8 ∧ 1 ≤ a ∧ a ≤ 3 ∧ 1 ≤ b ∧ b ≤ 3 ∧ rowsN S a * rowsN S b ≤ 1000 ∧ 0 < o ∧ o ≤ 2
theorem sizes_8 : Sizes 8 1 1 1 := ⟨by decide, by decide, by decide, by decide, by decide, by decide, by decide, by decide, by decide⟩
theorem sizes_2 {a b s : Nat} (ha : a < 3) (hb : b < 3) (hs : s < 1 + (if (1 + a) + (1 + b) < 4 then 1 else 0)) : Sizes (2 + s) (1 + a) (1 + b) 2 := by
  have hs2 : s < 2 := by
    split at hs <;> omega
  refine ⟨by omega, by omega, by omega, by omega, by omega, by omega, ?_, by decide, by decide⟩
  have ha' : a = 0 ∨ a = 1 ∨ a = 2 := by omega
  have hb' : b = 0 ∨ b = 1 ∨ b = 2 := by omega
  have hs' : s = 0 ∨ s = 1 := by omega
  rcases ha' with rfl | rfl | rfl <;> rcases hb' with rfl | rfl | rfl <;> rcases hs' with rfl | rfl <;> first | decide | (exfalso; revert hs; decide)
section
variable {P : Program} {w : World} {K : PySem.W.Frag} {mg : PySem.Str → Option Value} {base : Heap}
def spLaw (K : PySem.W.Frag) : Sp := fun vs H Q _ => ∃ (s0 : Addr) (ns : List Int), vs = [.ref s0] ∧ SqL K H s0 (ns.map V.int) ∧ ns.length ≤ 63 ∧ ∀ H', Q (.bl true) H'
theorem ok_law (Z : Defs K mg) : FnOk P w K mg base CX0 9 Z.law.f Z.law.fd ["_law_script"] (spLaw K) := by
  refine Z.law.F.ok sc_law (fun vs H Q E h => ?_) (fun cdv A outer s H vs Q E hr h => ?_)
  · obtain ⟨s0, ns, rfl, _⟩ := h
    rfl
  · obtain ⟨s0, ns, rfl, h0, hl, q⟩ := h
    refine ⟨_, (pss_cons (ps_set (i := 1) sc_law.nd rfl (Or.inr rfl) (pe_call (ok_law_hand (P := P) (w := w) Z) (hr.mono (by decide)) (by rfl) Z.law_hand.g Z.law_hand.F.kp Z.law_hand.b .nil pass0 (pa_cons (pv 0) pa_nil)))
        (pss_cons (ps_set (i := 2) sc_law.nd rfl (Or.inl rfl) (pe_op op_add pe_int (pe_call (ok_law_draw (P := P) (w := w) Z) (hr.mono (by decide)) (by rfl) Z.law_draw.g Z.law_draw.F.kp Z.law_draw.b .nil pass0 (pa_cons (pv 1) (pa_cons pe_int pa_nil)))))
        (pss_cons (ps_set (i := 3) sc_law.nd rfl (Or.inl rfl) (pe_op op_add pe_int (pe_call (ok_law_draw (P := P) (w := w) Z) (hr.mono (by decide)) (by rfl) Z.law_draw.g Z.law_draw.F.kp Z.law_draw.b .nil pass0 (pa_cons (pv 1) (pa_cons pe_int pa_nil)))))
        (pss_cons (ps_set (i := 4) sc_law.nd rfl (Or.inr rfl) (pe_op op_add pe_int (pe_call (ok_law_draw (P := P) (w := w) Z) (hr.mono (by decide)) (by rfl) Z.law_draw.g Z.law_draw.F.kp Z.law_draw.b .nil pass0 (pa_cons (pv 1) (pa_cons (pe_op op_add pe_int (pe_callTy call_int1 (by rfl) Z.b_int (by decide +kernel) (pa_cons (pe_cmpR op_lt (pe_op op_add (pv 2) (pv 3)) pe_int (nomark _)) pa_nil))) pa_nil)))))
        (pss_cons (ps_set (i := 5) sc_law.nd rfl (Or.inl rfl) pe_int)
        (pss_cons (ps_if (pt_cmpR op_eq (pe_call (ok_law_draw (P := P) (w := w) Z) (hr.mono (by decide)) (by rfl) Z.law_draw.g Z.law_draw.F.kp Z.law_draw.b .nil pass0 (pa_cons (pv 1) (pa_cons pe_int pa_nil))) pe_int (nomark _))
        (pss_one (ps_asg (pe_tup (pa_cons pe_int (pa_cons pe_int (pa_cons pe_int (pa_cons pe_int pa_nil))))) (pg_tup rfl (pgs_cons (pg_name (i := 4) sc_law.nd rfl (Or.inr rfl)) (pgs_cons (pg_name (i := 2) sc_law.nd rfl (Or.inl rfl)) (pgs_cons (pg_name (i := 3) sc_law.nd rfl (Or.inl rfl)) (pgs_cons (pg_name (i := 5) sc_law.nd rfl (Or.inl rfl)) pgs_nil)))))))
        pss_nil)
        (pss_cons (ps_set (i := 6) sc_law.nd rfl (Or.inl rfl) (pe_call (ok_law_book (P := P) (w := w) Z) (hr.mono (by decide)) (by rfl) Z.law_book.g Z.law_book.F.kp Z.law_book.b .nil pass0 (pa_cons (pv 1) (pa_cons (pv 4) (pa_cons (pv 2) (pa_cons (pv 3) (pa_cons (pv 5) pa_nil)))))))
        (pss_cons (ps_set (i := 7) sc_law.nd rfl (Or.inr rfl) (pe_make Z.Book.M (ok_Book_init (P := P) (w := w) Z) (hr.mono (by decide)) (by rfl) Z.Book.gC Z.Book_init.b .nil pass0 (pa_cons (pv 4) (pa_cons (pv 2) (pa_cons (pv 3) (pa_cons (pv 6) pa_nil))))))
        (pss_cons (ps_set (i := 9) sc_law.nd rfl (Or.inr rfl) (pe_callTy call_tuple_row (by rfl) Z.b_tuple (by decide +kernel) (pa_cons (pe_lc (own := [("_law_k", 8)]) (g := gName 8) (by rfl) sc_law.nd (pi_range1 rfl Z.b_range (pa_cons (pe_op op_add pe_int (pe_call (ok_law_draw (P := P) (w := w) Z) (hr.mono (by decide)) (by rfl) Z.law_draw.g Z.law_draw.F.kp Z.law_draw.b .nil pass0 (pa_cons (pv 1) (pa_cons pe_int pa_nil)))) pa_nil)) (blkOk_by (own := [("_law_k", 8)]) (N := ["_law_script", "_law_hand_here", "_law_ahead", "_law_behind", "_law_sounds", "_law_often", "_law_table", "_law_book_here", "_law_k", "_law_word", "_law_rows_here", "_law_turn", "_law_times", "_law_row", "_law_place", "_law_sound", "_law_before", "_law_length", "_law_far", "_law_more", "_law_total"]) (sc := defScope s_law) (by decide +kernel)) (fun _ _ _ _ _ => (pg_name (i := 8) sc_law.nd rfl (Or.inl rfl))) (fun _ _ _ _ _ => pts_nil) (fun _ _ _ _ _ => (pe_call (ok_law_draw (P := P) (w := w) Z) (hr.mono (by decide)) (by rfl) Z.law_draw.g Z.law_draw.F.kp Z.law_draw.b .nil pass0 (pa_cons (pv 1) (pa_cons (pv 4) pa_nil))))) pa_nil)))
        (pss_cons (ps_set (i := 10) sc_law.nd rfl (Or.inl rfl) (pe_lst (pa_cons (pv 9) pa_nil)))
        (pss_cons (ps_for PassesOwn.never rfl (pi_range1 rfl Z.b_range (pa_cons pe_int pa_nil)) (pg_name (i := 8) sc_law.nd rfl (Or.inl rfl))
        (pss_one (ps_expr (pe_bm PySem.F.plainAttrs_list PySem.F.slot_list_append PySem.F.type_list_append mt_append (pv 10) (pa_cons (pe_call (ok_law_met (P := P) (w := w) Z) (hr.mono (by decide)) (by rfl) Z.law_met.g Z.law_met.F.kp Z.law_met.b .nil pass0 (pa_cons (pv 6) (pa_cons (pv 2) (pa_cons (pv 3) (pa_cons (pe_ix ix_list (pv 10) (pe_un un_neg pe_int) (fun _ _ => rfl)) (pa_cons (pv 9) pa_nil)))))) pa_nil)))))
        (pss_cons (ps_for PassesOwn.never rfl (pi_range1 rfl Z.b_range (pa_cons pe_int pa_nil)) (pg_name (i := 11) sc_law.nd rfl (Or.inl rfl))
        (pss_cons (ps_set (i := 12) sc_law.nd rfl (Or.inl rfl) (pe_op op_add pe_int (pe_call (ok_law_draw (P := P) (w := w) Z) (hr.mono (by decide)) (by rfl) Z.law_draw.g Z.law_draw.F.kp Z.law_draw.b .nil pass0 (pa_cons (pv 1) (pa_cons (pe_ix ix_list (pe_lst (pa_cons pe_int (pa_cons pe_int pa_nil))) (pe_call (ok_law_draw (P := P) (w := w) Z) (hr.mono (by decide)) (by rfl) Z.law_draw.g Z.law_draw.F.kp Z.law_draw.b .nil pass0 (pa_cons (pv 1) (pa_cons pe_int pa_nil))) (fun _ _ => rfl)) pa_nil)))))
          (pss_cons (ps_set (i := 13) sc_law.nd rfl (Or.inl rfl) (pe_ix ix_list (pv 10) (pe_op op_sub (pv 12) pe_int) (fun _ _ => rfl)))
          (pss_cons (ps_set (i := 14) sc_law.nd rfl (Or.inl rfl) (pe_call (ok_law_draw (P := P) (w := w) Z) (hr.mono (by decide)) (by rfl) Z.law_draw.g Z.law_draw.F.kp Z.law_draw.b .nil pass0 (pa_cons (pv 1) (pa_cons (pe_callB call_len_row (by rfl) Z.b_len PySem.boot_len (pa_cons (pv 13) pa_nil)) pa_nil))))
          (pss_cons (ps_if (pt_cmpR (op_neD hr.units) (pe_call (ok_chain_ends (P := P) (w := w) Z) (hr.mono (by decide)) (by rfl) Z.chain_ends.g Z.chain_ends.F.kp Z.chain_ends.b .nil pass0 (pa_cons (pv 7) (pa_cons (pv 9) (pa_cons (pv 12) pa_nil)))) (pe_call (ok_law_ends (P := P) (w := w) Z) (hr.mono (by decide)) (by rfl) Z.law_ends.g Z.law_ends.F.kp Z.law_ends.b .nil pass0 (pa_cons (pv 13) (pa_cons (pv 2) (pa_cons (pv 3) pa_nil)))) (nomark _))
          (pss_one (ps_ret pe_bl))
          pss_nil)
          (pss_cons (ps_if (pt_cmpR op_ne (pe_call (ok_chain_sound (P := P) (w := w) Z) (hr.mono (by decide)) (by rfl) Z.chain_sound.g Z.chain_sound.F.kp Z.chain_sound.b .nil pass0 (pa_cons (pv 7) (pa_cons (pv 9) (pa_cons (pv 12) (pa_cons (pv 14) pa_nil))))) (pe_ix ix_row (pv 13) (pv 14) (fun _ _ => rfl)) (nomark _))
          (pss_one (ps_ret pe_bl))
          pss_nil)
          (pss_cons (ps_set (i := 15) sc_law.nd rfl (Or.inl rfl) (pe_call (ok_law_draw (P := P) (w := w) Z) (hr.mono (by decide)) (by rfl) Z.law_draw.g Z.law_draw.F.kp Z.law_draw.b .nil pass0 (pa_cons (pv 1) (pa_cons (pv 4) pa_nil))))
          (pss_one (ps_if (pt_cmpR op_ne (pe_call (ok_chain_count (P := P) (w := w) Z) (hr.mono (by decide)) (by rfl) Z.chain_count.g Z.chain_count.F.kp Z.chain_count.b .nil pass0 (pa_cons (pv 7) (pa_cons (pv 9) (pa_cons (pv 12) (pa_cons (pv 15) pa_nil))))) (pe_count_row (pv 13) (pa_cons (pv 15) pa_nil)) (nomark _))
          (pss_one (ps_ret pe_bl))
          pss_nil)))))))))
        (pss_cons (ps_set (i := 13) sc_law.nd rfl (Or.inl rfl) (pv 9))
        (pss_cons (ps_for PassesOwn.never rfl (pi_range1 rfl Z.b_range (pa_cons pe_int pa_nil)) (pg_name (i := 8) sc_law.nd rfl (Or.inl rfl))
        (pss_cons (ps_if (pt_cmpR (op_neD hr.units) (pe_call (ok_doubled_ends (P := P) (w := w) Z) (hr.mono (by decide)) (by rfl) Z.doubled_ends.g Z.doubled_ends.F.kp Z.doubled_ends.b .nil pass0 (pa_cons (pv 7) (pa_cons (pv 9) (pa_cons (pv 8) pa_nil)))) (pe_call (ok_law_ends (P := P) (w := w) Z) (hr.mono (by decide)) (by rfl) Z.law_ends.g Z.law_ends.F.kp Z.law_ends.b .nil pass0 (pa_cons (pv 13) (pa_cons (pv 2) (pa_cons (pv 3) pa_nil)))) (nomark _))
          (pss_one (ps_ret pe_bl))
          pss_nil)
          (pss_one (ps_set (i := 13) sc_law.nd rfl (Or.inl rfl) (pe_call (ok_law_met (P := P) (w := w) Z) (hr.mono (by decide)) (by rfl) Z.law_met.g Z.law_met.F.kp Z.law_met.b .nil pass0 (pa_cons (pv 6) (pa_cons (pv 2) (pa_cons (pv 3) (pa_cons (pv 13) (pa_cons (pv 13) pa_nil))))))))))
        (pss_cons (ps_asg (pe_call (ok_chain_ring (P := P) (w := w) Z) (hr.mono (by decide)) (by rfl) Z.chain_ring.g Z.chain_ring.F.kp Z.chain_ring.b .nil pass0 (pa_cons (pv 7) (pa_cons (pv 9) pa_nil))) (pg_tup rfl (pgs_cons (pg_name (i := 16) sc_law.nd rfl (Or.inl rfl)) (pgs_cons (pg_name (i := 17) sc_law.nd rfl (Or.inl rfl)) pgs_nil))))
        (pss_cons (ps_set (i := 18) sc_law.nd rfl (Or.inr rfl) (pe_op op_add (pv 16) (pe_call (ok_law_draw (P := P) (w := w) Z) (hr.mono (by decide)) (by rfl) Z.law_draw.g Z.law_draw.F.kp Z.law_draw.b .nil pass0 (pa_cons (pv 1) (pa_cons (pe_op op_pow pe_int pe_int) pa_nil)))))
        (pss_cons (ps_set (i := 19) sc_law.nd rfl (Or.inl rfl) (pe_op op_add (pv 18) (pe_op op_mul (pv 17) (pe_call (ok_law_draw (P := P) (w := w) Z) (hr.mono (by decide)) (by rfl) Z.law_draw.g Z.law_draw.F.kp Z.law_draw.b .nil pass0 (pa_cons (pv 1) (pa_cons (pe_op op_pow pe_int pe_int) pa_nil))))))
        (pss_cons (ps_if (PW.pt (pw_or (pt_cmpR (op_neD hr.units) (pe_ix ix_pair (pe_call (ok_chain_ends (P := P) (w := w) Z) (hr.mono (by decide)) (by rfl) Z.chain_ends.g Z.chain_ends.F.kp Z.chain_ends.b .nil pass0 (pa_cons (pv 7) (pa_cons (pv 9) (pa_cons (pv 18) pa_nil)))) pe_int (fun _ _ => rfl)) (pe_ix ix_pair (pe_call (ok_chain_ends (P := P) (w := w) Z) (hr.mono (by decide)) (by rfl) Z.chain_ends.g Z.chain_ends.F.kp Z.chain_ends.b .nil pass0 (pa_cons (pv 7) (pa_cons (pv 9) (pa_cons (pv 19) pa_nil)))) pe_int (fun _ _ => rfl)) (nomark _)) (pw_or (pt_cmpR op_lt (pv 16) pe_int (nomark _)) (pw_or1 (pt_cmpR op_lt (pv 17) pe_int (nomark _))))))
        (pss_one (ps_ret pe_bl))
        pss_nil)
        (pss_cons (ps_set (i := 20) sc_law.nd rfl (Or.inl rfl) (pe_callB (cr_sum rfl) (by rfl) Z.b_sum (by decide +kernel) (pa_cons (pe_lc (own := [("_law_sound", 15)]) (g := gName 15) (by rfl) sc_law.nd (pi_range1 rfl Z.b_range (pa_cons (pv 4) pa_nil)) (blkOk_by (own := [("_law_sound", 15)]) (N := ["_law_script", "_law_hand_here", "_law_ahead", "_law_behind", "_law_sounds", "_law_often", "_law_table", "_law_book_here", "_law_k", "_law_word", "_law_rows_here", "_law_turn", "_law_times", "_law_row", "_law_place", "_law_sound", "_law_before", "_law_length", "_law_far", "_law_more", "_law_total"]) (sc := defScope s_law) (by decide +kernel)) (fun _ _ _ _ _ => (pg_name (i := 15) sc_law.nd rfl (Or.inl rfl))) (fun _ _ _ _ _ => pts_nil) (fun _ _ _ _ _ => (pe_call (ok_chain_count (P := P) (w := w) Z) (hr.mono (by decide)) (by rfl) Z.chain_count.g Z.chain_count.F.kp Z.chain_count.b .nil pass0 (pa_cons (pv 7) (pa_cons (pv 9) (pa_cons (pv 18) (pa_cons (pv 15) pa_nil))))))) pa_nil)))
        (pss_cons (ps_if (pt_cmpR op_ne (pv 20) (pe_op op_mul (pv 18) (pe_callB call_len_row (by rfl) Z.b_len PySem.boot_len (pa_cons (pv 9) pa_nil))) (nomark _))
        (pss_one (ps_ret pe_bl))
        pss_nil)
        (pss_cons (ps_set (i := 18) sc_law.nd rfl (Or.inr rfl) (pe_call (ok_law_draw (P := P) (w := w) Z) (hr.mono (by decide)) (by rfl) Z.law_draw.g Z.law_draw.F.kp Z.law_draw.b .nil pass0 (pa_cons (pv 1) (pa_cons (pe_op op_pow pe_int pe_int) pa_nil))))
        (pss_one (ps_ret (pe_cmpR (op_eqD hr.units) (pe_call (ok_doubled_ends (P := P) (w := w) Z) (hr.mono (by decide)) (by rfl) Z.doubled_ends.g Z.doubled_ends.F.kp Z.doubled_ends.b .nil pass0 (pa_cons (pv 7) (pa_cons (pv 9) (pa_cons (pv 18) pa_nil)))) (pe_call (ok_law_far_doubled (P := P) (w := w) Z) (hr.mono (by decide)) (by rfl) Z.law_far_doubled.g Z.law_far_doubled.F.kp Z.law_far_doubled.b .nil pass0 (pa_cons (pe_tup (pa_cons (pv 6) (pa_cons (pv 2) (pa_cons (pv 3) pa_nil)))) (pa_cons (pv 9) (pa_cons (pv 18) pa_nil)))) (nomark _))))))))))))))))))))))))), ?_⟩
    -- hand
    refine ⟨_, rfl, s0, ns, rfl, h0, hl, fun H1 hp cp s1 hf HA1 => ?_⟩
    -- ahead = 1 + draw(3)
    refine ⟨_, rfl, hp, cp, 3, rfl, HA1, by decide, by decide, fun H2 r2 sb2 HA2 hr2 => ⟨_, _, rfl, rfl, ?_⟩⟩
    refine gname_as (y := .int (Int.ofNat (1 + r2))) (congrArg V.int (show (1 : Int) + (r2 : Int) = ((1 + r2 : Nat) : Int) by omega)) ?_
    -- behind = 1 + draw(3)
    refine ⟨_, rfl, hp, cp, 3, rfl, HA2, by decide, by decide, fun H3 r3 sb3 HA3 hr3 => ⟨_, _, rfl, rfl, ?_⟩⟩
    refine gname_as (y := .int (Int.ofNat (1 + r3))) (congrArg V.int (show (1 : Int) + (r3 : Int) = ((1 + r3 : Nat) : Int) by omega)) ?_
    -- sounds = 2 + draw(1 + int(ahead + behind < 4))
    refine ⟨_, rfl, _, rfl, _, rfl, _, _, rfl, rfl, _, _, rfl, rfl, .inr ⟨_, rfl, _, _, rfl, rfl, hp, cp, 1 + (if (1 + r2) + (1 + r3) < 4 then 1 else 0), ?_, HA3, by omega, ?_, fun H4 r4 sb4 HA4 hr4 => ⟨_, _, rfl, rfl, ?_⟩⟩⟩
    · by_cases c : (1 + r2) + (1 + r3) < 4
      · have c2 : Int.ofNat (1 + r2) + Int.ofNat (1 + r3) < 4 := by
          show ((1 + r2 : Nat) : Int) + ((1 + r3 : Nat) : Int) < 4
          omega
        show [V.ref hp, V.int (1 + if decide (Int.ofNat (1 + r2) + Int.ofNat (1 + r3) < 4) = true then 1 else 0)] = _
        rw [decide_eq_true c2, if_pos rfl, if_pos c]
        rfl
      · have c2 : ¬ Int.ofNat (1 + r2) + Int.ofNat (1 + r3) < 4 := by
          show ¬ ((1 + r2 : Nat) : Int) + ((1 + r3 : Nat) : Int) < 4
          omega
        show [V.ref hp, V.int (1 + if decide (Int.ofNat (1 + r2) + Int.ofNat (1 + r3) < 4) = true then 1 else 0)] = _
        rw [decide_eq_false c2, if_neg (by decide), if_neg c]
        rfl
    · refine Nat.lt_of_le_of_lt (m := 2) ?_ (by decide)
      split <;> omega
    refine gname_as (y := .int (Int.ofNat (2 + r4))) (congrArg V.int (show (2 : Int) + (r4 : Int) = ((2 + r4 : Nat) : Int) by omega)) ?_
    have hz := sizes_2 hr2 hr3 hr4
    generalize 1 + r2 = a at hz ⊢
    generalize 1 + r3 = b at hz ⊢
    generalize 2 + r4 = S at hz ⊢
    -- often = 2
    refine gname_by ?_
    dsimp only
    refine seq_by (fun σ' H' => H' = H4 ∧ σ' = [some (.ref s0), some (.ref hp), some (.int (Int.ofNat a)), some (.int (Int.ofNat b)), some (.int (Int.ofNat S)), some (.int (Int.ofNat 2)), none, none, none, none, none, none, none, none, none, none, none, none, none, none, none]) (fun N hN => hN _ _ ⟨rfl, rfl⟩) ?_
    rintro σ' H' ⟨rfl, rfl⟩
    -- now and then 8 sounds
    refine seq_by (fun σ' H5 => ∃ S a b o, Sizes S a b o ∧ HandAt H5 hp cp ∧ σ' = [some (.ref s0), some (.ref hp), some (.int (Int.ofNat a)), some (.int (Int.ofNat b)), some (.int (Int.ofNat S)), some (.int (Int.ofNat o)), none, none, none, none, none, none, none, none, none, none, none, none, none, none, none]) (fun N hN => ?_) ?_
    · refine ⟨_, rfl, hp, cp, 8, rfl, HA4, by decide, by decide, fun H5 r5 sb5 HA5 hr5 => ⟨rfl, _, rfl, ite2 (fun e => ?_) (fun e => ?_)⟩⟩
      · refine ⟨by show 4 ≤ sizeLine; decide, fun p hp0 => ?_⟩
        refine ⟨p, _, rfl, SqT.of upd_same, rfl, _, _, rfl, _, _, rfl, _, _, rfl, _, _, rfl, rfl, ?_⟩
        exact hN _ _ ⟨8, 1, 1, 1, sizes_8, HA5.same (same_new hp0), rfl⟩
      · exact hN _ _ ⟨S, a, b, 2, hz, HA5, rfl⟩
    clear hz sb4 HA4 hr4 hr3 hr2 sb3 sb2 HA3 HA2
    rintro σ' H5 ⟨S, a, b, o, ⟨S1, S8, a1, a3, b1, b3, hN, o1, o2⟩, HA5, rfl⟩
    -- table
    refine ⟨_, rfl, _, rfl, _, rfl, _, rfl, _, rfl, hp, cp, S, a, b, o, rfl, HA5, S1, S8, a3, b3, hN, o1, o2, fun H6 d t sb6 hd6 HA6 td6 lt6 et6 => ?_⟩
    -- book
    refine ⟨_, rfl, _, rfl, _, rfl, _, rfl, fun bk dx0 hc hd nd => ⟨bk, dx0, d, t, S, a, b, rfl, upd_same, td6.same (made_same hc hd nd), lt6, et6, S1, S8, a1, by omega, b1, by omega, fun H7 sb7 B7 => ⟨rfl, ?_⟩⟩⟩
    have s7 := Same.but_fresh (made_same hc hd nd) sb7 hc
    have HA7 := HA6.same s7
    have td7 := td6.same s7
    -- word
    refine ⟨_, rfl, hp, cp, 5, rfl, HA7, by decide, by decide, fun H8 r8 sb8 HA8 hr8 => ⟨_, _, rfl, rfl, _, rfl, ?_, ?_, fun D hD => ?_⟩⟩
    · show -(2 ^ 62) ≤ (1 : Int) + (r8 : Int)
      omega
    · show (1 : Int) + (r8 : Int) < 2 ^ 62
      omega
    have B8 := B7.hand HA7 sb8
    have td8 := td7.hand HA7 sb8
    have en : (1 + Int.ofNat r8).toNat = 1 + r8 := by
      show ((1 : Int) + (r8 : Int)).toNat = _
      omega
    obtain ⟨nDp, nDc⟩ := HA8.new hD
    refine lc_range (lo := 0) (n := (1 + Int.ofNat r8).toNat) (fun n H' => Drawn hp cp S H8 n D H') ⟨SameBut.of (same_new hD), HA8.same (same_new hD), [], upd_same, rfl, fun z hz => absurd hz List.not_mem_nil⟩ ?_ ?_
    · rintro n H9 hn ⟨sb9, HA9, cs, d9, lc, ic⟩
      rw [en] at hn
      refine ⟨rfl, _, rfl, _, rfl, hp, cp, S, rfl, HA9, S1, Nat.lt_of_le_of_lt S8 (by decide), fun H10 r10 sb10 HA10 hr10 => ⟨_, sb10 _ _ d9 nDp, ?_, ?_⟩⟩
      · rw [vr_len, lc]
        exact small1000 (by omega)
      · refine ⟨SameBut.upd_fresh (sb9.trans sb10) hD, HA10.upd nDp nDc, cs ++ [(r10 : Int)], ?_, by rw [List.length_append, lc]; rfl, ic.app fun z hz => ?_⟩
        · rw [upd_same]
          unfold vr
          rw [List.map_append]
          rfl
        · rw [List.mem_singleton.mp hz]
          omega
    rintro H9 ⟨sb9, HA9, r, d9, lc, ic⟩
    rw [en] at lc
    refine ⟨D, r, rfl, SqL.of d9, fun x H10 s10 ex => ?_⟩
    have L : LawAt P w Z.CBook H10 hp cp d bk x S a b t r := ⟨HA9.same s10, (td8.hand HA8 sb9).same s10, ⟨(B8.hand HA8 sb9).same s10, ex, ic, by omega, by omega⟩, S1⟩
    have r5 : r.length ≤ 5 := by omega
    have tok := L.W.bk.ok
    clear lc ic en d9 sb9 HA9 td8 B8 hD nDp nDc HA8 sb8 hr8 td7 HA7 s7 B7 sb7 hc hd nd lt6 et6 td6 HA6 hd6 sb6 HA5 HA1 s1 hf ex s10
    refine gname_by ?_
    dsimp only
    -- rows_here = [word]
    refine ⟨_, rfl, (by show 1 ≤ sizeLine; decide), fun rh hrh => ?_⟩
    have LA := L.same (same_new (o := .lst [V.ref x]) hrh)
    have RA : RowsL (look t) a b r (upd H10 rh (.lst [V.ref x])) hp cp rh 1 := ⟨(L.HA.new hrh).1, (L.HA.new hrh).2, [x], upd_same, rfl, fun i u e => by
      have : i = 0 := by
        cases i with
        | zero => rfl
        | succ i => cases e
      subst this
      cases e
      exact LA.W.row⟩
    generalize upd H10 rh (.lst [V.ref x]) = H11 at LA RA ⊢
    clear L hrh
    refine gname_by ?_
    dsimp only
    -- 39 more
    refine ⟨_, rfl, by decide, by decide, ?_⟩
    refine for_range (lo := 0) (n := 39) (fun j σ H' => ∃ v8, σ = [some (.ref s0), some (.ref hp), some (.int (Int.ofNat a)), some (.int (Int.ofNat b)), some (.int (Int.ofNat S)), some (.int (Int.ofNat o)), some (.ref d), some (.ref bk), v8, some (.ref x), some (.ref rh), none, none, none, none, none, none, none, none, none, none] ∧ LawAt P w Z.CBook H' hp cp d bk x S a b t r ∧ RowsL (look t) a b r H' hp cp rh (j + 1)) ⟨none, rfl, LA, RA⟩ ?_ ?_
    · rintro j σ H' hj ⟨v8, rfl, LB, ⟨ne, ne2, as, h1, h2, h3⟩⟩
      have hlast : as[j]? = some as[j] := List.getElem?_eq_getElem (by omega)
      have cl1 : (chn (look t) a b r j).length ≤ 10000 := by
        rw [chn_len tok]
        have h9 : (j + 1) * r.length ≤ 39 * 5 := Nat.mul_le_mul (by omega) r5
        omega
      refine ⟨_, rfl, .inl ⟨rfl, _, SqL.of h1⟩, _, rfl, _, rfl, _, rfl, _, rfl, 1, rfl, rh, _, _, _, rfl, rfl, SqL.of h1, atI_lastmap h2 hlast, _, rfl, d, as[j], x, a, b, t, S, chn (look t) a b r j, r, rfl, LB.td, tok, a1, h3 _ _ hlast, LB.W.row, cl1, by omega, fun u H3 s3 e3 => ?_⟩
      have h13 := s3 _ _ h1
      have k3 := Keeps.lst (ys := List.map V.ref (as ++ [u])) h13
      refine ⟨rh, _, _, rfl, rfl, h13, ?_, ?_⟩
      · rw [List.length_map, h2]
        exact small1000 (by omega)
      have el : List.map V.ref as ++ [V.ref u] = List.map V.ref (as ++ [u]) := by rw [List.map_append]; rfl
      rw [el]
      refine ⟨some (.int (0 + (j : Int))), rfl, (LB.same s3).lst h13 ne ne2, ne, ne2, as ++ [u], upd_same, by rw [List.length_append, h2]; rfl, fun i t' e => ?_⟩
      rcases get_snoc h2 e with e' | ⟨e1, e2⟩
      · exact ((h3 i t' e').same s3).keep k3
      · rw [e1, e2]
        exact e3.keep k3
    clear LA RA
    rintro σ H12 ⟨v8, rfl, LA, RA⟩
    -- six turns
    refine ⟨_, rfl, by decide, by decide, ?_⟩
    refine for_range (lo := 0) (n := 6) (fun j σ H' => ∃ v11 v12 v13 v14 v15, σ = [some (.ref s0), some (.ref hp), some (.int (Int.ofNat a)), some (.int (Int.ofNat b)), some (.int (Int.ofNat S)), some (.int (Int.ofNat o)), some (.ref d), some (.ref bk), v8, some (.ref x), some (.ref rh), v11, v12, v13, v14, v15, none, none, none, none, none] ∧ LawAt P w Z.CBook H' hp cp d bk x S a b t r ∧ RowsL (look t) a b r H' hp cp rh 40) ⟨none, none, none, none, none, rfl, LA, RA⟩ ?_ ?_
    · rintro j σ H1 hj ⟨v11, v12, v13, v14, v15, rfl, L1, R1⟩
      -- times = 1 + draw([5, 40][draw(2)])
      refine ⟨_, rfl, (by show 2 ≤ sizeLine; decide), fun l hl => ?_⟩
      have s2 := same_new (o := .lst [V.int 5, V.int 40]) hl
      have l2 : (upd H1 l (.lst [V.int 5, V.int 40])) l = some (.lst [V.int 5, V.int 40]) := upd_same
      have L2' := L1.same s2
      have R2' := R1.same s2
      have nlp := (L1.HA.new hl).1
      generalize upd H1 l (.lst [V.int 5, V.int 40]) = H2 at l2 L2' R2' ⊢
      refine ⟨_, rfl, hp, cp, 2, rfl, L2'.HA, by decide, by decide, fun H3 r3 sb3 HA3 hr3 => ?_⟩
      have L3 := L2'.draw sb3 HA3
      have R3 := R2'.draw L2'.HA sb3
      have l3 := sb3 _ _ l2 nlp
      have hm : ∃ m, atI [V.int 5, V.int 40] (Int.ofNat r3) = some (.int (Int.ofNat m)) ∧ 0 < m ∧ m ≤ 40 := by
        have : r3 = 0 ∨ r3 = 1 := by omega
        rcases this with rfl | rfl
        · exact ⟨5, atI_nat (j := 0) rfl, by decide, by decide⟩
        · exact ⟨40, atI_nat (j := 1) rfl, by decide, by decide⟩
      obtain ⟨m, hm1, hm2, hm3⟩ := hm
      refine ⟨l, _, Int.ofNat r3, _, rfl, rfl, SqL.of l3, hm1, hp, cp, m, rfl, L3.HA, hm2, Nat.lt_of_le_of_lt hm3 (by decide), fun H4 n sb4 HA4 hn => ⟨_, _, rfl, rfl, ?_⟩⟩
      refine gname_as (y := .int (Int.ofNat (n + 1))) (congrArg V.int (show (1 : Int) + (n : Int) = ((n + 1 : Nat) : Int) by omega)) ?_
      have L4 := L3.draw sb4 HA4
      have R4 := R3.draw L3.HA sb4
      clear L1 R1 L2' R2' L3 R3
      -- row = rows_here[times - 1]
      obtain ⟨ne, ne2, as, h1, h2, h3⟩ := id R4
      have hget : as[n]? = some as[n] := List.getElem?_eq_getElem (by omega)
      have hrow := h3 _ _ hget
      generalize as[n] = y at hget hrow
      refine ⟨_, rfl, _, rfl, _, _, rfl, rfl, rh, _, Int.ofNat n, _, rfl, congrArg V.int (nat_pred n), SqL.of h1, atI_map hget, ?_⟩
      clear h1 h2 h3 hget
      -- place = draw(len(row))
      have cl1 := chn_len (a := a) (b := b) (w := r) tok n
      have cl2 : (n + 1) * r.length ≤ 40 * 5 := Nat.mul_le_mul (by omega) r5
      have cl3 : 0 < (n + 1) * r.length := Nat.mul_pos (by omega) L4.W.w1
      refine ⟨_, rfl, _, rfl, y, _, rfl, hrow, hp, cp, (chn (look t) a b r n).length, rfl, L4.HA, by omega, Nat.lt_of_le_of_lt (show _ ≤ 200 by omega) (by decide), fun H5 g sb5 HA5 hg => ?_⟩
      have L5 := L4.draw sb5 HA5
      have R5 := R4.draw L4.HA sb5
      have hrow5 := hrow.keep (L4.HA.keeps sb5)
      have n30 : n + 1 ≤ 10 ^ 30 := Nat.le_trans (show n + 1 ≤ 40 by omega) (by decide)
      -- chain_ends(..) != _law_ends(..)
      refine ⟨_, rfl, _, rfl, _, rfl, bk, x, n, S, a, b, look t, r, rfl, L5.W, n30, fun H6 q6 s6 e6 => ?_⟩
      refine ⟨_, rfl, _, rfl, _, rfl, y, a, b, _, rfl, a1, hrow5.same s6, fun q7 H7 s7 e7 => ?_⟩
      refine ⟨pD (ends a b (chn (look t) a b r n)), pD (ends a b (chn (look t) a b r n)), dp_pair (e6.same s7), dp_pair e7, pD_shaped _, pD_shaped _, ?_⟩
      rw [pD_eqv, decide_eq_true rfl]
      refine ⟨false, rfl, iteF ?_⟩
      have s67 := s6.trans s7
      have L7 := L5.same s67
      have R7 := R5.same s67
      have hrow7 := hrow5.same s67
      -- chain_sound(..) != row[place]
      refine ⟨_, rfl, _, rfl, _, rfl, _, rfl, bk, x, n, g, S, a, b, look t, r, rfl, L7.W, n30, by omega, fun H8 v s8 e8 => ?_⟩
      refine ⟨_, rfl, _, rfl, y, _, (g : Int), v, rfl, rfl, hrow7.same s8, Int.natCast_nonneg _, e8, rfl, ?_⟩
      rw [decide_eq_true rfl]
      refine ⟨false, rfl, iteF ?_⟩
      have L8 := L7.same s8
      have R8 := R7.same s8
      have hrow8 := hrow7.same s8
      -- sound = draw(sounds)
      refine ⟨_, rfl, _, rfl, hp, cp, S, rfl, L8.HA, S1, Nat.lt_of_le_of_lt S8 (by decide), fun H9 sd sb9 HA9 hsd => ?_⟩
      have L9 := L8.draw sb9 HA9
      have R9 := R8.draw L8.HA sb9
      have hrow9 := hrow8.keep (L8.HA.keeps sb9)
      -- chain_count(..) != row.count(sound)
      refine ⟨_, rfl, _, rfl, _, rfl, _, rfl, bk, x, n, sd, S, a, b, look t, r, rfl, L9.W, n30, hsd, fun H10 s10 => ?_⟩
      refine ⟨_, rfl, y, _, rfl, hrow9.same s10, _, rfl, _, Int.ofNat sd, rfl, hrow9.same s10, rfl, ?_⟩
      rw [decide_eq_true rfl]
      refine ⟨false, rfl, iteF ?_⟩
      exact ⟨_, _, _, _, _, rfl, L9.same s10, R9.same s10⟩
    clear LA RA
    rintro σ H13 ⟨v11, v12, v13, v14, v15, rfl, LA, _⟩
    -- row = word
    refine ⟨_, rfl, ?_⟩
    refine gname_by ?_
    dsimp only
    -- doubled by and by
    refine ⟨_, rfl, by decide, by decide, ?_⟩
    refine for_range (lo := 0) (n := 6) (fun j σ H' => ∃ v8 y, σ = [some (.ref s0), some (.ref hp), some (.int (Int.ofNat a)), some (.int (Int.ofNat b)), some (.int (Int.ofNat S)), some (.int (Int.ofNat o)), some (.ref d), some (.ref bk), v8, some (.ref x), some (.ref rh), v11, v12, some (.ref y), v14, v15, none, none, none, none, none] ∧ LawAt P w Z.CBook H' hp cp d bk x S a b t r ∧ RowAt H' y (dbl (look t) a b r j)) ⟨v8, x, rfl, LA, LA.W.row⟩ ?_ ?_
    · rintro j σ H1 hj ⟨v8, y, rfl, L1, hy⟩
      -- doubled_ends(..) != _law_ends(..)
      refine ⟨_, rfl, _, rfl, _, rfl, bk, x, j, S, a, b, look t, r, ?_, L1.W, Nat.le_trans (show j ≤ 6 by omega) (by decide), fun q2 H2 s2 e2 => ?_⟩
      · show [V.ref bk, V.ref x, V.int (0 + (j : Int))] = [V.ref bk, V.ref x, V.int (Int.ofNat j)]
        rw [Int.zero_add]
        rfl
      refine ⟨_, rfl, _, rfl, _, rfl, y, a, b, _, rfl, a1, hy.same s2, fun q3 H3 s3 e3 => ?_⟩
      refine ⟨pD (ends a b (dbl (look t) a b r j)), pD (ends a b (dbl (look t) a b r j)), dp_pair (e2.same s3), dp_pair e3, pD_shaped _, pD_shaped _, ?_⟩
      rw [pD_eqv, decide_eq_true rfl]
      refine ⟨false, rfl, iteF ?_⟩
      have L3 := (L1.same s2).same s3
      have hy3 := (hy.same s2).same s3
      have dl : (dbl (look t) a b r j).length ≤ 10000 := by
        rw [dbl_len_le tok]
        have h1 : 2 ^ j ≤ 2 ^ 5 := Nat.pow_le_pow_right (by decide) (by omega)
        have h2 : 2 ^ j * r.length ≤ 2 ^ 5 * 5 := Nat.mul_le_mul h1 r5
        omega
      refine ⟨_, rfl, _, rfl, _, rfl, _, rfl, _, rfl, d, y, y, a, b, t, S, _, _, rfl, L3.td, tok, a1, hy3, hy3, dl, dl, fun u H4 s4 e4 => ?_⟩
      exact ⟨_, u, rfl, L3.same s4, e4⟩
    clear LA v8
    rintro σ H1 ⟨v8, y, rfl, L1, _⟩
    -- before, length = chain_ring(..)
    refine ⟨_, rfl, _, rfl, bk, x, S, a, b, look t, r, rfl, L1.W, fun H2 tp m p s2 e2 m7 p7 p0 per => ?_⟩
    refine ⟨tp, _, rfl, SqT.of e2, rfl, _, _, rfl, _, _, rfl, rfl, ?_⟩
    have L2 := L1.same s2
    -- far = before + draw(10 ** 20)
    refine ⟨_, rfl, _, rfl, 10, 20, rfl, rfl, ⟨by decide, by decide, by decide⟩, hp, cp, 10 ^ 20, rfl, L2.HA, by decide, by decide, fun H3 r3 sb3 HA3 hr3 => ⟨_, _, rfl, rfl, ?_⟩⟩
    obtain ⟨n, hn⟩ : ∃ n, n = m + r3 := ⟨_, rfl⟩
    refine gname_as (y := .int (Int.ofNat (n + 1))) (congrArg V.int (show ((m + 1 : Nat) : Int) + (r3 : Int) = ((n + 1 : Nat) : Int) by omega)) ?_
    have L3 := L2.draw sb3 HA3
    -- more = far + length * draw(10 ** 9)
    refine ⟨_, rfl, _, rfl, _, rfl, 10, 9, rfl, rfl, ⟨by decide, by decide, by decide⟩, hp, cp, 10 ^ 9, rfl, L3.HA, by decide, by decide, fun H4 k sb4 HA4 hk => ⟨_, _, rfl, rfl, .inl ⟨?_, ?_⟩, _, _, rfl, rfl, ?_⟩⟩
    · show -(2 ^ 64) < (p : Int)
      omega
    · show (p : Int) < 2 ^ 64
      omega
    have ekp : (p : Int) * (k : Int) = ((k * p : Nat) : Int) := by rw [Int.natCast_mul, Int.mul_comm]
    refine gname_as (y := .int (Int.ofNat (n + k * p + 1))) (congrArg V.int (show ((n + 1 : Nat) : Int) + (p : Int) * (k : Int) = ((n + k * p + 1 : Nat) : Int) by rw [ekp]; omega)) ?_
    have L4 := L3.draw sb4 HA4
    have hkp : k * p ≤ 10 ^ 9 * 7000 := Nat.mul_le_mul (Nat.le_of_lt hk) p7
    have n30 : n + 1 ≤ 10 ^ 30 := by omega
    have n31 : n + k * p + 1 ≤ 10 ^ 30 := by omega
    have et : (ends a b (chn (look t) a b r n)).2 = (ends a b (chn (look t) a b r (n + k * p))).2 := by
      show lastN a (chn (look t) a b r n) = lastN a (chn (look t) a b r (n + k * p))
      rw [chn_tl tok L4.W.w1, chn_tl tok L4.W.w1]
      exact (per n k (by omega)).symm
    -- chain_ends(far)[1] != chain_ends(more)[1]
    refine ⟨_, rfl, _, rfl, _, rfl, bk, x, n, S, a, b, look t, r, rfl, L4.W, n30, fun H5 q5 s5 e5 => ?_⟩
    obtain ⟨u5, w5, h5, hu5, hw5⟩ := id e5
    refine ⟨q5, _, u5, w5, rfl, h5, hu5, hw5, .inr ⟨rfl, ?_⟩⟩
    have L5 := L4.same s5
    refine ⟨_, rfl, _, rfl, _, rfl, bk, x, n + k * p, S, a, b, look t, r, rfl, L5.W, n31, fun H6 q6 s6 e6 => ?_⟩
    obtain ⟨u6, w6, h6, hu6, hw6⟩ := id e6
    refine ⟨q6, _, u6, w6, rfl, h6, hu6, hw6, .inr ⟨rfl, ?_⟩⟩
    refine ⟨rD _, rD _, dp_row (hw5.same s6), dp_row hw6, rD_shaped _, rD_shaped _, ?_⟩
    rw [rD_eqv, decide_eq_true et]
    refine ⟨false, rfl, iteF ?_⟩
    refine ⟨_, rfl, _, _, rfl, rfl, false, congrArg V.bl (decide_eq_false ?_), iteF ?_⟩
    · show ¬ ((m + 1 : Nat) : Int) < 1
      omega
    refine ⟨_, rfl, _, _, rfl, rfl, false, congrArg V.bl (decide_eq_false ?_), iteF ?_⟩
    · show ¬ (p : Int) < 1
      omega
    have L6 := L5.same s6
    -- total
    refine ⟨_, rfl, _, rfl, ?_, ?_, fun D hD => ?_⟩
    · show -(2 ^ 62) ≤ (S : Int)
      omega
    · show (S : Int) < 2 ^ 62
      omega
    obtain ⟨cf, hcf⟩ : ∃ cf : Nat → Nat, cf = fun s : Nat => (chn (look t) a b r n).count ((s : Nat) : Int) := ⟨_, rfl⟩
    refine lc_range (lo := 0) (n := S) (fun j H' => Same H6 H' ∧ H' D = some (.lst (vr (cl cf j)))) ⟨same_new hD, upd_same⟩ ?_ ?_
    · rintro j H7 hj ⟨sm, hd⟩
      refine ⟨rfl, _, rfl, _, rfl, _, rfl, _, rfl, bk, x, n, j, S, a, b, look t, r, ?_, (L6.same sm).W, n30, hj, fun H8 s8 => ⟨_, s8 _ _ hd, ?_, Same.upd_fresh (sm.trans s8) hD, ?_⟩⟩
      · show [V.ref bk, V.ref x, V.int (Int.ofNat (n + 1)), V.int (0 + (j : Int))] = [V.ref bk, V.ref x, V.int (Int.ofNat (n + 1)), V.int (Int.ofNat j)]
        rw [Int.zero_add]
        rfl
      · rw [vr_len, cl_len]
        exact small1000 (by omega)
      · rw [upd_same, cl_succ, hcf]
        unfold vr
        rw [List.map_append]
        rfl
    rintro H7 ⟨s7, hd7⟩
    refine ⟨D, cl cf S, rfl, SqL.of hd7, ?_⟩
    have L7 := L6.same s7
    have esum : (cl cf S).sum = Int.ofNat (n + 1) * (r.length : Int) := by
      rw [cl_sum, hcf, count_all S _ (chn_in tok L7.W.sd n), chn_len tok, Int.natCast_mul]
      rfl
    -- total != far * len(word)
    refine ⟨_, rfl, _, rfl, _, rfl, x, r, rfl, L7.W.row, _, _, rfl, rfl, .inr (by omega), rfl, false, congrArg V.bl (?_ : (!decide (V.int (cl cf S).sum = V.int (Int.ofNat (n + 1) * (r.length : Int)))) = false), iteF ?_⟩
    · rw [esum, decide_eq_true rfl]
      rfl
    -- far = draw(10 ** 30)
    refine ⟨_, rfl, 10, 30, rfl, rfl, ⟨by decide, by decide, by decide⟩, hp, cp, 10 ^ 30, rfl, L7.HA, by decide, by decide, fun H8 n2 sb8 HA8 hn2 => ?_⟩
    have L8 := L7.draw sb8 HA8
    -- doubled_ends(..) == _law_far_doubled(..)
    refine ⟨_, rfl, _, rfl, _, rfl, bk, x, n2, S, a, b, look t, r, rfl, L8.W, Nat.le_of_lt hn2, fun q9 H9 s9 e9 => ?_⟩
    refine ⟨_, rfl, _, rfl, _, rfl, (by show 3 ≤ sizeLine; decide), fun pp hpp => ?_⟩
    have s10 := same_new (o := .tup [.ref d, .int (Int.ofNat a), .int (Int.ofNat b)]) hpp
    have L10 := (L8.same s9).same s10
    refine ⟨_, rfl, _, rfl, pp, d, x, a, b, n2, t, S, r, rfl, upd_same, L10.td, tok, a1, by omega, b1, by omega, L10.W.row, L10.W.w1, by omega, fun q11 H11 s11 e11 => ?_⟩
    refine ⟨pD (ends a b (dbl (look t) a b r n2)), pD (ends a b (dbl (look t) a b r n2)), dp_pair ((e9.same s10).same s11), dp_pair e11, pD_shaped _, pD_shaped _, ?_⟩
    rw [pD_eqv, decide_eq_true rfl]
    exact q _
end
end K98
set_option maxHeartbeats 0
/-! The head: facts by names, the run of the top, the end (printed by gen.py). -/
namespace K98
open PySem PySem.Spec PyProof.Rows L2
def dd_is_integer : He.FnD := ⟨("is_integer", none), "is_integer", "is_integer", defArgs s_is_integer, defBody s_is_integer, defScope s_is_integer⟩
def dd_is_between : He.FnD := ⟨("is_between", none), "is_between", "is_between", defArgs s_is_between, defBody s_is_between, defScope s_is_between⟩
def dd_is_index : He.FnD := ⟨("is_index", none), "is_index", "is_index", defArgs s_is_index, defBody s_is_index, defScope s_is_index⟩
def dd_check_number : He.FnD := ⟨("check_number", none), "check_number", "check_number", defArgs s_check_number, defBody s_check_number, defScope s_check_number⟩
def dd_is_sounds : He.FnD := ⟨("is_sounds", none), "is_sounds", "is_sounds", defArgs s_is_sounds, defBody s_is_sounds, defScope s_is_sounds⟩
def dd_is_side_pair : He.FnD := ⟨("is_side_pair", none), "is_side_pair", "is_side_pair", defArgs s_is_side_pair, defBody s_is_side_pair, defScope s_is_side_pair⟩
def dd_is_table : He.FnD := ⟨("is_table", none), "is_table", "is_table", defArgs s_is_table, defBody s_is_table, defScope s_is_table⟩
def dd_check_sizes : He.FnD := ⟨("check_sizes", none), "check_sizes", "check_sizes", defArgs s_check_sizes, defBody s_check_sizes, defScope s_check_sizes⟩
def dd_Book_init : He.FnD := ⟨("Book", some "__init__"), "__init__", "Book.__init__", defArgs s_Book_init, defBody s_Book_init, defScope s_Book_init⟩
def dd_Book_keep : He.FnD := ⟨("Book", some "keep"), "keep", "Book.keep", defArgs s_Book_keep, defBody s_Book_keep, defScope s_Book_keep⟩
def dd_Book_reach : He.FnD := ⟨("Book", some "reach"), "reach", "Book.reach", defArgs s_Book_reach, defBody s_Book_reach, defScope s_Book_reach⟩
def dd_told : He.FnD := ⟨("told", none), "told", "told", defArgs s_told, defBody s_told, defScope s_told⟩
def dd_is_word : He.FnD := ⟨("is_word", none), "is_word", "is_word", defArgs s_is_word, defBody s_is_word, defScope s_is_word⟩
def dd_joined_rows : He.FnD := ⟨("joined_rows", none), "joined_rows", "joined_rows", defArgs s_joined_rows, defBody s_joined_rows, defScope s_joined_rows⟩
def dd_met_rows : He.FnD := ⟨("met_rows", none), "met_rows", "met_rows", defArgs s_met_rows, defBody s_met_rows, defScope s_met_rows⟩
def dd_summed_up : He.FnD := ⟨("summed_up", none), "summed_up", "summed_up", defArgs s_summed_up, defBody s_summed_up, defScope s_summed_up⟩
def dd_standing_for : He.FnD := ⟨("standing_for", none), "standing_for", "standing_for", defArgs s_standing_for, defBody s_standing_for, defScope s_standing_for⟩
def dd_check_word : He.FnD := ⟨("check_word", none), "check_word", "check_word", defArgs s_check_word, defBody s_check_word, defScope s_check_word⟩
def dd_ends_of : He.FnD := ⟨("ends_of", none), "ends_of", "ends_of", defArgs s_ends_of, defBody s_ends_of, defScope s_ends_of⟩
def dd_Chain_init : He.FnD := ⟨("Chain", some "__init__"), "__init__", "Chain.__init__", defArgs s_Chain_init, defBody s_Chain_init, defScope s_Chain_init⟩
def dd_Chain_cut : He.FnD := ⟨("Chain", some "cut"), "cut", "Chain.cut", defArgs s_Chain_cut, defBody s_Chain_cut, defScope s_Chain_cut⟩
def dd_Chain_index : He.FnD := ⟨("Chain", some "index"), "index", "Chain.index", defArgs s_Chain_index, defBody s_Chain_index, defScope s_Chain_index⟩
def dd_Chain_tail : He.FnD := ⟨("Chain", some "tail"), "tail", "Chain.tail", defArgs s_Chain_tail, defBody s_Chain_tail, defScope s_Chain_tail⟩
def dd_Chain_settled : He.FnD := ⟨("Chain", some "settled"), "settled", "Chain.settled", defArgs s_Chain_settled, defBody s_Chain_settled, defScope s_Chain_settled⟩
def dd_Chain_full : He.FnD := ⟨("Chain", some "full"), "full", "Chain.full", defArgs s_Chain_full, defBody s_Chain_full, defScope s_Chain_full⟩
def dd_Chain_sound : He.FnD := ⟨("Chain", some "sound"), "sound", "Chain.sound", defArgs s_Chain_sound, defBody s_Chain_sound, defScope s_Chain_sound⟩
def dd_Chain_count : He.FnD := ⟨("Chain", some "count"), "count", "Chain.count", defArgs s_Chain_count, defBody s_Chain_count, defScope s_Chain_count⟩
def dd_check_chain : He.FnD := ⟨("check_chain", none), "check_chain", "check_chain", defArgs s_check_chain, defBody s_check_chain, defScope s_check_chain⟩
def dd_first_row : He.FnD := ⟨("first_row", none), "first_row", "first_row", defArgs s_first_row, defBody s_first_row, defScope s_first_row⟩
def dd_chain_ends : He.FnD := ⟨("chain_ends", none), "chain_ends", "chain_ends", defArgs s_chain_ends, defBody s_chain_ends, defScope s_chain_ends⟩
def dd_chain_sound : He.FnD := ⟨("chain_sound", none), "chain_sound", "chain_sound", defArgs s_chain_sound, defBody s_chain_sound, defScope s_chain_sound⟩
def dd_chain_count : He.FnD := ⟨("chain_count", none), "chain_count", "chain_count", defArgs s_chain_count, defBody s_chain_count, defScope s_chain_count⟩
def dd_chain_ring : He.FnD := ⟨("chain_ring", none), "chain_ring", "chain_ring", defArgs s_chain_ring, defBody s_chain_ring, defScope s_chain_ring⟩
def dd_doubled_ends : He.FnD := ⟨("doubled_ends", none), "doubled_ends", "doubled_ends", defArgs s_doubled_ends, defBody s_doubled_ends, defScope s_doubled_ends⟩
def dd_law_hand : He.FnD := ⟨("_law_hand", none), "_law_hand", "_law_hand", defArgs s_law_hand, defBody s_law_hand, defScope s_law_hand⟩
def dd_law_draw : He.FnD := ⟨("_law_draw", none), "_law_draw", "_law_draw", defArgs s_law_draw, defBody s_law_draw, defScope s_law_draw⟩
def dd_law_book : He.FnD := ⟨("_law_book", none), "_law_book", "_law_book", defArgs s_law_book, defBody s_law_book, defScope s_law_book⟩
def dd_law_rows : He.FnD := ⟨("_law_rows", none), "_law_rows", "_law_rows", defArgs s_law_rows, defBody s_law_rows, defScope s_law_rows⟩
def dd_law_met : He.FnD := ⟨("_law_met", none), "_law_met", "_law_met", defArgs s_law_met, defBody s_law_met, defScope s_law_met⟩
def dd_law_ends : He.FnD := ⟨("_law_ends", none), "_law_ends", "_law_ends", defArgs s_law_ends, defBody s_law_ends, defScope s_law_ends⟩
def dd_law_far_doubled : He.FnD := ⟨("_law_far_doubled", none), "_law_far_doubled", "_law_far_doubled", defArgs s_law_far_doubled, defBody s_law_far_doubled, defScope s_law_far_doubled⟩
def dd_law : He.FnD := ⟨("law", none), "law", "law", defArgs s_law, defBody s_law, defScope s_law⟩
def hfn0 : List He.FnD := [dd_is_integer, dd_is_between, dd_is_index, dd_check_number, dd_is_sounds, dd_is_side_pair, dd_is_table, dd_check_sizes, dd_Book_init, dd_Book_keep, dd_Book_reach, dd_told, dd_is_word, dd_joined_rows, dd_met_rows, dd_summed_up, dd_standing_for, dd_check_word, dd_ends_of, dd_Chain_init]
def hfn1 : List He.FnD := [dd_Chain_cut, dd_Chain_index, dd_Chain_tail, dd_Chain_settled, dd_Chain_full, dd_Chain_sound, dd_Chain_count, dd_check_chain, dd_first_row, dd_chain_ends, dd_chain_sound, dd_chain_count, dd_chain_ring, dd_doubled_ends, dd_law_hand, dd_law_draw, dd_law_book, dd_law_rows, dd_law_met, dd_law_ends]
def hfn2 : List He.FnD := [dd_law_far_doubled, dd_law]
def hfn : List He.FnD := hfn0 ++ (hfn1 ++ (hfn2))
def hfa0 : List He.Fa := [.glo "is_integer", .keep "is_integer", .glo "is_between", .keep "is_between", .glo "is_index", .keep "is_index", .glo "check_number", .keep "check_number", .glo "is_sounds", .keep "is_sounds", .glo "is_side_pair", .keep "is_side_pair", .glo "is_table", .keep "is_table", .glo "check_sizes", .keep "check_sizes", .meth "Book" "__init__", .meth "Book" "keep", .meth "Book" "reach", .glo "told"]
def hfa1 : List He.Fa := [.keep "told", .glo "is_word", .keep "is_word", .glo "joined_rows", .keep "joined_rows", .glo "met_rows", .keep "met_rows", .glo "summed_up", .keep "summed_up", .glo "standing_for", .keep "standing_for", .glo "check_word", .keep "check_word", .glo "ends_of", .keep "ends_of", .meth "Chain" "__init__", .meth "Chain" "cut", .meth "Chain" "index", .meth "Chain" "tail", .meth "Chain" "settled"]
def hfa2 : List He.Fa := [.meth "Chain" "full", .meth "Chain" "sound", .meth "Chain" "count", .glo "check_chain", .keep "check_chain", .glo "first_row", .keep "first_row", .glo "chain_ends", .keep "chain_ends", .glo "chain_sound", .keep "chain_sound", .glo "chain_count", .keep "chain_count", .glo "chain_ring", .keep "chain_ring", .glo "doubled_ends", .keep "doubled_ends", .glo "_law_hand", .keep "_law_hand", .glo "_law_draw"]
def hfa3 : List He.Fa := [.keep "_law_draw", .glo "_law_book", .keep "_law_book", .glo "_law_rows", .keep "_law_rows", .glo "_law_met", .keep "_law_met", .glo "_law_ends", .keep "_law_ends", .glo "_law_far_doubled", .keep "_law_far_doubled", .glo "law", .keep "law", .glo "Book", .cls "Book", .mkr "Book", .noat "Book" "kept_sounds", .noat "Book" "kept_ahead", .noat "Book" "kept_behind", .noat "Book" "kept_table"]
def hfa4 : List He.Fa := [.glo "Chain", .cls "Chain", .mkr "Chain", .noat "Chain" "book", .noat "Chain" "word", .noat "Chain" "tails", .noat "Chain" "fixed", .noat "Chain" "seen", .noat "Chain" "before", .noat "Chain" "ring", .free "len", .free "isinstance", .free "int", .free "bool", .free "tuple", .free "dict", .free "all", .free "min", .free "max", .free "sum"]
def hfa5 : List He.Fa := [.free "abs", .free "range", .int "MOST_SOUNDS" 8, .int "MOST_SIDE" 4, .int "MOST_ENTRIES" 4000, .int "MOST_WORD" 200, .int "MOST_TIMES" 1000000000000000000000000000000]
def hfa : List He.Fa := hfa0 ++ (hfa1 ++ (hfa2 ++ (hfa3 ++ (hfa4 ++ (hfa5)))))
def loose0 : List PySem.Str := ["SeamError", "NoNumber", "NoWords", "NoBook", "is_integer", "is_between", "is_index", "check_number", "MOST_SOUNDS", "MOST_SIDE", "MOST_ENTRIES", "is_sounds", "is_side_pair", "is_table", "check_sizes", "Book", "told", "MOST_WORD", "is_word", "joined_rows"]
def loose1 : List PySem.Str := ["met_rows", "summed_up", "standing_for", "MOST_TIMES", "check_word", "ends_of", "Chain", "check_chain", "first_row", "chain_ends", "chain_sound", "chain_count", "chain_ring", "doubled_ends", "_law_hand", "_law_draw", "_law_book", "_law_rows", "_law_met", "_law_ends"]
def loose2 : List PySem.Str := ["_law_far_doubled"]
def loose : List PySem.Str := loose0 ++ (loose1 ++ (loose2))
section
variable {K : PySem.W.Frag} {h : Heap} {mg : PySem.Str → Option Value} {fa : List He.Fa} {fn : List He.FnD}
theorem df_of (X : K.In h) (G : h.Ns mainGlobals mg) (c : He.SaysE fa fn K) {x : PySem.Str} {ps : List PySem.Str} {st : Stmt} (i j k : Nat) (hd : fn[i]? = some ⟨(x, none), x, x, defArgs st, defBody st, defScope st⟩) (hg : fa[j]? = some (.glo x)) (hk : fa[k]? = some (.keep x))
    (hb : ∀ (kV doc pm : Value) (an : Option Addr) (cdv ct : Value) (us : List Value), us.length = ps.length → bindArgs (PySem.W.fnOf x x (defArgs st) (defBody st) (defScope st) .none kV doc pm an cdv ct) ⟨us, []⟩ = pure (ps.zip us)) : Nonempty (Df K mg x ps st) := by
  obtain ⟨oc, od, osl, kV, doc, pm, an, cdv, ct, lk, cd⟩ := c.def_ i hd
  have F := fun_mk lk cd (He.keep_ok (c.fact k hk))
  exact ⟨⟨_, _, F, F.binds hb, He.glo_ok X G (c.fact j hg)⟩⟩
theorem dm_of (c : He.SaysE fa fn K) {C x q : PySem.Str} {ps : List PySem.Str} {st : Stmt} (i j : Nat) (hd : fn[i]? = some ⟨(C, some x), x, q, defArgs st, defBody st, defScope st⟩) (hm : fa[j]? = some (.meth C x))
    (hb : ∀ (kV doc pm : Value) (an : Option Addr) (cdv ct : Value) (us : List Value), us.length = ps.length → bindArgs (PySem.W.fnOf x q (defArgs st) (defBody st) (defScope st) .none kV doc pm an cdv ct) ⟨us, []⟩ = pure (ps.zip us)) : ∃ D : Dm K (He.ga K C) x q ps st, D.f = He.ma K (He.ga K C) x := by
  obtain ⟨oc, od, osl, kV, doc, pm, an, cdv, ct, lk, cd⟩ := c.def_ i hd
  have M := He.meth_ok (c.fact j hm)
  have F := fun_mk lk cd M.kp
  exact ⟨⟨_, _, F, F.binds hb, M⟩, rfl⟩
theorem one_bind {x q p : PySem.Str} {st : Stmt} {f : Addr} {fd : FuncData} (F : Fun K x q st f fd)
    (hb : ∀ (kV doc pm : Value) (an : Option Addr) (cdv ct : Value) (us : List Value), us.length = [p].length → bindArgs (PySem.W.fnOf x q (defArgs st) (defBody st) (defScope st) .none kV doc pm an cdv ct) ⟨us, []⟩ = pure ([p].zip us)) (s : Shared) (v : Value) : BindsTo s fd ⟨[v], []⟩ [(p, v)] := by
  obtain ⟨oc, od, kV, doc, pm, an, cdv, ct, osl, rfl, lk, hcd⟩ := F.ex
  exact .of_eq (hb kV doc pm an cdv ct [v] rfl)
end
theorem defs_of {K : PySem.W.Frag} {h : Heap} {mg : PySem.Str → Option Value} (X : K.In h) (G : h.Ns mainGlobals mg) (c : He.SaysE hfa hfn K) : Nonempty (Defs K mg) := by
  obtain ⟨m_is_integer⟩ := df_of (x := "is_integer") (ps := ["thing"]) (st := s_is_integer) X G c 0 0 1 rfl rfl rfl (fun _ _ _ _ _ _ us hl => match us, hl with | [_], _ => rfl)
  obtain ⟨m_is_between⟩ := df_of (x := "is_between") (ps := ["thing", "least", "most"]) (st := s_is_between) X G c 1 2 3 rfl rfl rfl (fun _ _ _ _ _ _ us hl => match us, hl with | [_, _, _], _ => rfl)
  obtain ⟨m_is_index⟩ := df_of (x := "is_index") (ps := ["thing", "many"]) (st := s_is_index) X G c 2 4 5 rfl rfl rfl (fun _ _ _ _ _ _ us hl => match us, hl with | [_, _], _ => rfl)
  obtain ⟨m_check_number⟩ := df_of (x := "check_number") (ps := ["thing", "least", "most"]) (st := s_check_number) X G c 3 6 7 rfl rfl rfl (fun _ _ _ _ _ _ us hl => match us, hl with | [_, _, _], _ => rfl)
  obtain ⟨m_is_sounds⟩ := df_of (x := "is_sounds") (ps := ["thing", "sounds", "least", "most"]) (st := s_is_sounds) X G c 4 8 9 rfl rfl rfl (fun _ _ _ _ _ _ us hl => match us, hl with | [_, _, _, _], _ => rfl)
  obtain ⟨m_is_side_pair⟩ := df_of (x := "is_side_pair") (ps := ["thing", "sounds", "ahead", "behind"]) (st := s_is_side_pair) X G c 5 10 11 rfl rfl rfl (fun _ _ _ _ _ _ us hl => match us, hl with | [_, _, _, _], _ => rfl)
  obtain ⟨m_is_table⟩ := df_of (x := "is_table") (ps := ["thing", "sounds", "ahead", "behind"]) (st := s_is_table) X G c 6 12 13 rfl rfl rfl (fun _ _ _ _ _ _ us hl => match us, hl with | [_, _, _, _], _ => rfl)
  obtain ⟨m_check_sizes⟩ := df_of (x := "check_sizes") (ps := ["sounds", "ahead", "behind"]) (st := s_check_sizes) X G c 7 14 15 rfl rfl rfl (fun _ _ _ _ _ _ us hl => match us, hl with | [_, _, _], _ => rfl)
  obtain ⟨m_Book_init, e_Book_init⟩ := dm_of (C := "Book") (x := "__init__") (q := "Book.__init__") (ps := ["self", "sounds", "ahead", "behind", "table"]) (st := s_Book_init) c 8 16 rfl rfl (fun _ _ _ _ _ _ us hl => match us, hl with | [_, _, _, _, _], _ => rfl)
  obtain ⟨m_Book_keep, e_Book_keep⟩ := dm_of (C := "Book") (x := "keep") (q := "Book.keep") (ps := ["self", "sounds", "ahead", "behind", "table"]) (st := s_Book_keep) c 9 17 rfl rfl (fun _ _ _ _ _ _ us hl => match us, hl with | [_, _, _, _, _], _ => rfl)
  obtain ⟨m_Book_reach, e_Book_reach⟩ := dm_of (C := "Book") (x := "reach") (q := "Book.reach") (ps := ["self"]) (st := s_Book_reach) c 10 18 rfl rfl (fun _ _ _ _ _ _ us hl => match us, hl with | [_], _ => rfl)
  obtain ⟨m_told⟩ := df_of (x := "told") (ps := ["book", "left", "right"]) (st := s_told) X G c 11 19 20 rfl rfl rfl (fun _ _ _ _ _ _ us hl => match us, hl with | [_, _, _], _ => rfl)
  obtain ⟨m_is_word⟩ := df_of (x := "is_word") (ps := ["thing", "sounds"]) (st := s_is_word) X G c 12 21 22 rfl rfl rfl (fun _ _ _ _ _ _ us hl => match us, hl with | [_, _], _ => rfl)
  obtain ⟨m_joined_rows⟩ := df_of (x := "joined_rows") (ps := ["book", "one", "other"]) (st := s_joined_rows) X G c 13 23 24 rfl rfl rfl (fun _ _ _ _ _ _ us hl => match us, hl with | [_, _, _], _ => rfl)
  obtain ⟨m_met_rows⟩ := df_of (x := "met_rows") (ps := ["book", "one", "other"]) (st := s_met_rows) X G c 14 25 26 rfl rfl rfl (fun _ _ _ _ _ _ us hl => match us, hl with | [_, _, _], _ => rfl)
  obtain ⟨m_summed_up⟩ := df_of (x := "summed_up") (ps := ["book", "row"]) (st := s_summed_up) X G c 15 27 28 rfl rfl rfl (fun _ _ _ _ _ _ us hl => match us, hl with | [_, _], _ => rfl)
  obtain ⟨m_standing_for⟩ := df_of (x := "standing_for") (ps := ["found"]) (st := s_standing_for) X G c 16 29 30 rfl rfl rfl (fun _ _ _ _ _ _ us hl => match us, hl with | [_], _ => rfl)
  obtain ⟨m_check_word⟩ := df_of (x := "check_word") (ps := ["book", "thing"]) (st := s_check_word) X G c 17 31 32 rfl rfl rfl (fun _ _ _ _ _ _ us hl => match us, hl with | [_, _], _ => rfl)
  obtain ⟨m_ends_of⟩ := df_of (x := "ends_of") (ps := ["book", "row"]) (st := s_ends_of) X G c 18 33 34 rfl rfl rfl (fun _ _ _ _ _ _ us hl => match us, hl with | [_, _], _ => rfl)
  obtain ⟨m_Chain_init, e_Chain_init⟩ := dm_of (C := "Chain") (x := "__init__") (q := "Chain.__init__") (ps := ["self", "book", "word"]) (st := s_Chain_init) c 19 35 rfl rfl (fun _ _ _ _ _ _ us hl => match us, hl with | [_, _, _], _ => rfl)
  obtain ⟨m_Chain_cut, e_Chain_cut⟩ := dm_of (C := "Chain") (x := "cut") (q := "Chain.cut") (ps := ["self", "row"]) (st := s_Chain_cut) c 20 36 rfl rfl (fun _ _ _ _ _ _ us hl => match us, hl with | [_, _], _ => rfl)
  obtain ⟨m_Chain_index, e_Chain_index⟩ := dm_of (C := "Chain") (x := "index") (q := "Chain.index") (ps := ["self", "number"]) (st := s_Chain_index) c 21 37 rfl rfl (fun _ _ _ _ _ _ us hl => match us, hl with | [_, _], _ => rfl)
  obtain ⟨m_Chain_tail, e_Chain_tail⟩ := dm_of (C := "Chain") (x := "tail") (q := "Chain.tail") (ps := ["self", "number"]) (st := s_Chain_tail) c 22 38 rfl rfl (fun _ _ _ _ _ _ us hl => match us, hl with | [_, _], _ => rfl)
  obtain ⟨m_Chain_settled, e_Chain_settled⟩ := dm_of (C := "Chain") (x := "settled") (q := "Chain.settled") (ps := ["self", "number"]) (st := s_Chain_settled) c 23 39 rfl rfl (fun _ _ _ _ _ _ us hl => match us, hl with | [_, _], _ => rfl)
  obtain ⟨m_Chain_full, e_Chain_full⟩ := dm_of (C := "Chain") (x := "full") (q := "Chain.full") (ps := ["self"]) (st := s_Chain_full) c 24 40 rfl rfl (fun _ _ _ _ _ _ us hl => match us, hl with | [_], _ => rfl)
  obtain ⟨m_Chain_sound, e_Chain_sound⟩ := dm_of (C := "Chain") (x := "sound") (q := "Chain.sound") (ps := ["self", "times", "place"]) (st := s_Chain_sound) c 25 41 rfl rfl (fun _ _ _ _ _ _ us hl => match us, hl with | [_, _, _], _ => rfl)
  obtain ⟨m_Chain_count, e_Chain_count⟩ := dm_of (C := "Chain") (x := "count") (q := "Chain.count") (ps := ["self", "times", "sound"]) (st := s_Chain_count) c 26 42 rfl rfl (fun _ _ _ _ _ _ us hl => match us, hl with | [_, _, _], _ => rfl)
  obtain ⟨m_check_chain⟩ := df_of (x := "check_chain") (ps := ["book", "word", "times"]) (st := s_check_chain) X G c 27 43 44 rfl rfl rfl (fun _ _ _ _ _ _ us hl => match us, hl with | [_, _, _], _ => rfl)
  obtain ⟨m_first_row⟩ := df_of (x := "first_row") (ps := ["book", "word", "times"]) (st := s_first_row) X G c 28 45 46 rfl rfl rfl (fun _ _ _ _ _ _ us hl => match us, hl with | [_, _, _], _ => rfl)
  obtain ⟨m_chain_ends⟩ := df_of (x := "chain_ends") (ps := ["book", "word", "times"]) (st := s_chain_ends) X G c 29 47 48 rfl rfl rfl (fun _ _ _ _ _ _ us hl => match us, hl with | [_, _, _], _ => rfl)
  obtain ⟨m_chain_sound⟩ := df_of (x := "chain_sound") (ps := ["book", "word", "times", "place"]) (st := s_chain_sound) X G c 30 49 50 rfl rfl rfl (fun _ _ _ _ _ _ us hl => match us, hl with | [_, _, _, _], _ => rfl)
  obtain ⟨m_chain_count⟩ := df_of (x := "chain_count") (ps := ["book", "word", "times", "sound"]) (st := s_chain_count) X G c 31 51 52 rfl rfl rfl (fun _ _ _ _ _ _ us hl => match us, hl with | [_, _, _, _], _ => rfl)
  obtain ⟨m_chain_ring⟩ := df_of (x := "chain_ring") (ps := ["book", "word"]) (st := s_chain_ring) X G c 32 53 54 rfl rfl rfl (fun _ _ _ _ _ _ us hl => match us, hl with | [_, _], _ => rfl)
  obtain ⟨m_doubled_ends⟩ := df_of (x := "doubled_ends") (ps := ["book", "word", "times"]) (st := s_doubled_ends) X G c 33 55 56 rfl rfl rfl (fun _ _ _ _ _ _ us hl => match us, hl with | [_, _, _], _ => rfl)
  obtain ⟨m_law_hand⟩ := df_of (x := "_law_hand") (ps := ["_law_script"]) (st := s_law_hand) X G c 34 57 58 rfl rfl rfl (fun _ _ _ _ _ _ us hl => match us, hl with | [_], _ => rfl)
  obtain ⟨m_law_draw⟩ := df_of (x := "_law_draw") (ps := ["_law_hand_here", "_law_many"]) (st := s_law_draw) X G c 35 59 60 rfl rfl rfl (fun _ _ _ _ _ _ us hl => match us, hl with | [_, _], _ => rfl)
  obtain ⟨m_law_book⟩ := df_of (x := "_law_book") (ps := ["_law_hand_here", "_law_sounds", "_law_ahead", "_law_behind", "_law_often"]) (st := s_law_book) X G c 36 61 62 rfl rfl rfl (fun _ _ _ _ _ _ us hl => match us, hl with | [_, _, _, _, _], _ => rfl)
  obtain ⟨m_law_rows⟩ := df_of (x := "_law_rows") (ps := ["_law_sounds", "_law_most"]) (st := s_law_rows) X G c 37 63 64 rfl rfl rfl (fun _ _ _ _ _ _ us hl => match us, hl with | [_, _], _ => rfl)
  obtain ⟨m_law_met⟩ := df_of (x := "_law_met") (ps := ["_law_table", "_law_ahead", "_law_behind", "_law_one", "_law_other"]) (st := s_law_met) X G c 38 65 66 rfl rfl rfl (fun _ _ _ _ _ _ us hl => match us, hl with | [_, _, _, _, _], _ => rfl)
  obtain ⟨m_law_ends⟩ := df_of (x := "_law_ends") (ps := ["_law_row", "_law_ahead", "_law_behind"]) (st := s_law_ends) X G c 39 67 68 rfl rfl rfl (fun _ _ _ _ _ _ us hl => match us, hl with | [_, _, _], _ => rfl)
  obtain ⟨m_law_far_doubled⟩ := df_of (x := "_law_far_doubled") (ps := ["_law_parts", "_law_word", "_law_times"]) (st := s_law_far_doubled) X G c 40 69 70 rfl rfl rfl (fun _ _ _ _ _ _ us hl => match us, hl with | [_, _, _], _ => rfl)
  obtain ⟨m_law⟩ := df_of (x := "law") (ps := ["_law_script"]) (st := s_law) X G c 41 71 72 rfl rfl rfl (fun _ _ _ _ _ _ us hl => match us, hl with | [_], _ => rfl)
  refine ⟨{
    CBook := He.ga K "Book"
    CChain := He.ga K "Chain"
    is_integer := m_is_integer
    is_between := m_is_between
    is_index := m_is_index
    check_number := m_check_number
    is_sounds := m_is_sounds
    is_side_pair := m_is_side_pair
    is_table := m_is_table
    check_sizes := m_check_sizes
    Book_init := m_Book_init
    Book_keep := m_Book_keep
    Book_reach := m_Book_reach
    told := m_told
    is_word := m_is_word
    joined_rows := m_joined_rows
    met_rows := m_met_rows
    summed_up := m_summed_up
    standing_for := m_standing_for
    check_word := m_check_word
    ends_of := m_ends_of
    Chain_init := m_Chain_init
    Chain_cut := m_Chain_cut
    Chain_index := m_Chain_index
    Chain_tail := m_Chain_tail
    Chain_settled := m_Chain_settled
    Chain_full := m_Chain_full
    Chain_sound := m_Chain_sound
    Chain_count := m_Chain_count
    check_chain := m_check_chain
    first_row := m_first_row
    chain_ends := m_chain_ends
    chain_sound := m_chain_sound
    chain_count := m_chain_count
    chain_ring := m_chain_ring
    doubled_ends := m_doubled_ends
    law_hand := m_law_hand
    law_draw := m_law_draw
    law_book := m_law_book
    law_rows := m_law_rows
    law_met := m_law_met
    law_ends := m_law_ends
    law_far_doubled := m_law_far_doubled
    law := m_law
    Book := { cl := He.cls_ok (c.fact 74 rfl), gC := He.glo_ok X G (c.fact 73 rfl), M := by rw [e_Book_init]; exact He.mkr_ok (c.fact 75 rfl), a_kept_sounds := He.noat_ok (c.fact 76 rfl), a_kept_ahead := He.noat_ok (c.fact 77 rfl), a_kept_behind := He.noat_ok (c.fact 78 rfl), a_kept_table := He.noat_ok (c.fact 79 rfl) }
    Chain := { cl := He.cls_ok (c.fact 81 rfl), gC := He.glo_ok X G (c.fact 80 rfl), M := by rw [e_Chain_init]; exact He.mkr_ok (c.fact 82 rfl), a_book := He.noat_ok (c.fact 83 rfl), a_word := He.noat_ok (c.fact 84 rfl), a_tails := He.noat_ok (c.fact 85 rfl), a_fixed := He.noat_ok (c.fact 86 rfl), a_seen := He.noat_ok (c.fact 87 rfl), a_before := He.noat_ok (c.fact 88 rfl), a_ring := He.noat_ok (c.fact 89 rfl) }
    b_len := He.free_ok X G (c.fact 90 rfl)
    b_isinstance := He.free_ok X G (c.fact 91 rfl)
    b_int := He.free_ok X G (c.fact 92 rfl)
    b_bool := He.free_ok X G (c.fact 93 rfl)
    b_tuple := He.free_ok X G (c.fact 94 rfl)
    b_dict := He.free_ok X G (c.fact 95 rfl)
    b_all := He.free_ok X G (c.fact 96 rfl)
    b_min := He.free_ok X G (c.fact 97 rfl)
    b_max := He.free_ok X G (c.fact 98 rfl)
    b_sum := He.free_ok X G (c.fact 99 rfl)
    b_abs := He.free_ok X G (c.fact 100 rfl)
    b_range := He.free_ok X G (c.fact 101 rfl)
    c_MOST_SOUNDS := He.int_ok X G (c.fact 102 rfl)
    c_MOST_SIDE := He.int_ok X G (c.fact 103 rfl)
    c_MOST_ENTRIES := He.int_ok X G (c.fact 104 rfl)
    c_MOST_WORD := He.int_ok X G (c.fact 105 rfl)
    c_MOST_TIMES := He.int_ok X G (c.fact 106 rfl)
  }⟩
abbrev lR : PySem.W.OpenRow := PySem.W.OpenLaw.row PySem.Challenge.rw_heardseams_k98_whole_chains_said_out
abbrev lhk : PySem.W.Hook := He.hookE 5 hfa hfn
def lob (s : PySem.W.SharedT) : He.Al := He.obsG 5 hfa hfn (HandSHeadRun.getT s)
theorem lob_eq (s : PySem.W.SharedT) : lob s = lhk.obs s.abs := He.obsG_eq (HandSHeadRun.getT_eq s)
theorem lrun (w : World) : HandSHeadRun.RunEq lR (PySem.W.view lR.prog [49]) lhk lob 4000 loose w := by
  intro os
  kernel_rfl
theorem lfacts {P : Program} {w : World} {K : PySem.W.Frag} {h : Heap} {mg : PySem.Str → Option Value} {f : Addr} (X : K.In h) (G : h.Ns mainGlobals mg) (hf : mg ("law" : PySem.Str) = some (.ref f)) (c : He.SaysE hfa hfn K) :
    ∃ fd : FuncData, (∀ (s : Shared) (v : Value), BindsTo s fd ⟨[v], []⟩ [("_law_script", v)]) ∧ ∀ base : Heap, K.In base → base.Ns mainGlobals mg → FnOk P w K mg base CX0 9 f fd ["_law_script"] (spLaw K) := by
  obtain ⟨Z⟩ := defs_of X G c
  have e := hf.symm.trans Z.law.g
  cases e
  exact ⟨Z.law.fd, one_bind Z.law.F (fun _ _ _ _ _ _ us hl => match us, hl with | [_], _ => rfl), fun base _ _ => ok_law Z⟩
end K98
open PySem PySem.W PySem.Calls PyProof.Rows
theorem PySem.Challenge.cw_heardseams_k98_whole_chains_said_out_holds : PySem.Challenge.rw_heardseams_k98_whole_chains_said_out.Holds := by
  w_on; o_law
  refine HandSHeadRun.head_any (r := OpenLaw.row PySem.Challenge.rw_heardseams_k98_whole_chains_said_out) (q := view (OpenLaw.row PySem.Challenge.rw_heardseams_k98_whole_chains_said_out).prog [49]) (H := K98.lhk) (ob := K98.lob) (M := 4000) (loose := K98.loose) (d := HandSHeadRun.topDef (OpenLaw.row PySem.Challenge.rw_heardseams_k98_whole_chains_said_out).prog 49) (kwd := []) K98.lob_eq
    (by kernel_rfl) (fun s => by kernel_rfl) K98.lrun (by kernel_rfl) (by kernel_rfl) (by kernel_rfl) (by rfl) (by first | assumption | decide +kernel) (by decide +kernel) ⟨rfl, rfl, rfl, rfl, rfl, by decide +kernel⟩ ?hw ?hc
  case hw => w_witness2
  case hc =>
    refine L2.walk_ofE (l := PySem.Challenge.rw_heardseams_k98_whole_chains_said_out) (n := 63) (k := 9) (x := "_law_script") (CX := L2.CX0) rfl (by decide) (by kernel_rfl) ⟨rfl, by decide, by decide⟩ ?F (fun _ _ _ _ z => z)
    intro w mg fa h Y G hmg0
    obtain ⟨K, KX, c⟩ := Y
    have hmg : mg ("law" : PySem.Str) = some (.ref fa) := by
      have e : (HandSHeadRun.topDef (OpenLaw.row PySem.Challenge.rw_heardseams_k98_whole_chains_said_out).prog 49).name = ("law" : PySem.Str) := by kernel_rfl
      rw [← e]
      exact hmg0
    obtain ⟨fd, hb, hF⟩ := K98.lfacts (P := (PySem.Challenge.rw_heardseams_k98_whole_chains_said_out).prog) (w := w) KX G hmg c
    exact ⟨K, fd, K98.spLaw K, KX, hb, fun H a ns hl _ hS => ⟨a, ns, rfl, hS, hl, fun _ => rfl⟩, hF⟩
