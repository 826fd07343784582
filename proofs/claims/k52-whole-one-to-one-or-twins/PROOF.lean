import PyProof.Rows.All
import Wide.All
import OpenK.AllK
import Wide.FinOn
import HandS.ForMost
import HandS.Wide
import HandS.SetKeys
import HandS.IsInst
import HandS.Deep
import HandS.Zip
import HandS.Lambda
import HandS.EndTab
import HandS.Rev
import HandS.Conv
import KE.SortKeyHeap
import HandS.Walk
import HandS.ExcValue
import HandS.ExcOwn
import KE.KDictDisplayH
import PyProof.Rows.TupDisplay
import HandS.NoneIn
import PySem.Challenge.RW_rowrules_k52_whole_one_to_one_or_twins
set_option Elab.async false
/-! Words, numbers, digits: plain lists of naturals. -/
namespace K52

theorem snoc_ind {α : Type} {P : List α → Prop} (h0 : P []) (h1 : ∀ l a, P l → P (l ++ [a])) : ∀ l, P l := by
  have h : ∀ l : List α, P l.reverse := by
    intro l
    induction l with
    | nil => exact h0
    | cons a l ih => rw [List.reverse_cons]; exact h1 _ _ ih
  intro l
  have := h l.reverse
  rwa [List.reverse_reverse] at this

/-- the number that a word writes -/
def val (s : Nat) (w : List Nat) : Nat := w.foldl (fun a d => a * s + d) 0
/-- the word of n signs with the number k -/
def wordN (s : Nat) : Nat → Nat → List Nat
  | 0, _ => []
  | n + 1, k => wordN s n (k / s) ++ [k % s]

theorem val_nil (s : Nat) : val s [] = 0 := rfl
theorem val_snoc (s : Nat) (w : List Nat) (d : Nat) : val s (w ++ [d]) = val s w * s + d := by
  unfold val
  rw [List.foldl_append]
  rfl
theorem wordN_len (s : Nat) : ∀ n k, (wordN s n k).length = n
  | 0, _ => rfl
  | n + 1, k => by rw [wordN, List.length_append, wordN_len s n]; rfl
theorem val_wordN (s : Nat) (hs : 0 < s) : ∀ n k, val s (wordN s n k) = k % s ^ n
  | 0, k => by rw [wordN, Nat.pow_zero, Nat.mod_one]; rfl
  | n + 1, k => by
    rw [wordN, val_snoc, val_wordN s hs n, Nat.pow_succ, Nat.mul_comm (s ^ n) s, Nat.mod_mul, Nat.mul_comm]
    omega
theorem wordN_get (s : Nat) : ∀ n k j, j < n → (wordN s n k)[j]? = some (k / s ^ (n - 1 - j) % s)
  | 0, _, j, h => absurd h (Nat.not_lt_zero _)
  | n + 1, k, j, h => by
    rw [wordN]
    by_cases hj : j < n
    · rw [List.getElem?_append_left (by rw [wordN_len]; exact hj), wordN_get s n _ j hj, Nat.div_div_eq_div_mul]
      congr 3
      rw [show n + 1 - 1 - j = (n - 1 - j) + 1 by omega, Nat.pow_succ, Nat.mul_comm]
    · have e : j = n := by omega
      subst e
      rw [List.getElem?_append_right (by rw [wordN_len]; exact Nat.le_refl _), wordN_len, Nat.sub_self, show j + 1 - 1 - j = 0 by omega, Nat.pow_zero, Nat.div_one]
      rfl
theorem wordN_lt (s : Nat) (hs : 0 < s) : ∀ n k, ∀ d ∈ wordN s n k, d < s
  | 0, _, d, h => by cases h
  | n + 1, k, d, h => by
    rw [wordN] at h
    rcases List.mem_append.mp h with h | h
    · exact wordN_lt s hs n _ d h
    · rw [List.mem_singleton.mp h]
      exact Nat.mod_lt _ hs
theorem val_lt (s : Nat) : ∀ (w : List Nat), (∀ d ∈ w, d < s) → val s w < s ^ w.length := by
  refine snoc_ind (fun _ => by rw [val_nil]; exact Nat.one_pos) fun w d ih h => ?_
  · skip
    have h1 := ih fun e he => h e (List.mem_append_left _ he)
    have h2 : d < s := h d (List.mem_append_right _ (List.mem_singleton.mpr rfl))
    rw [val_snoc, List.length_append, List.length_singleton, Nat.pow_succ]
    have : val s w * s + s ≤ s ^ w.length * s := by
      rw [← Nat.succ_mul]
      exact Nat.mul_le_mul_right _ h1
    omega
theorem wordN_val (s : Nat) : ∀ (w : List Nat), (∀ d ∈ w, d < s) → wordN s w.length (val s w) = w := by
  refine snoc_ind (fun _ => rfl) fun w d ih h => ?_
  · skip
    have h1 := ih fun e he => h e (List.mem_append_left _ he)
    have h2 : d < s := h d (List.mem_append_right _ (List.mem_singleton.mpr rfl))
    have hs : 0 < s := by omega
    rw [val_snoc, List.length_append, List.length_singleton, wordN]
    rw [show (val s w * s + d) / s = val s w by rw [Nat.mul_comm, Nat.mul_add_div hs, Nat.div_eq_of_lt h2, Nat.add_zero],
      show (val s w * s + d) % s = d by rw [Nat.mul_comm, Nat.mul_add_mod, Nat.mod_eq_of_lt h2], h1]
theorem val_inj (s : Nat) {v w : List Nat} (hl : v.length = w.length) (hv : ∀ d ∈ v, d < s) (hw : ∀ d ∈ w, d < s) (e : val s v = val s w) : v = w := by
  rw [← wordN_val s v hv, ← wordN_val s w hw, hl, e]

/-- the value of the window of n places of a row of signs -/
def win (s : Nat) (z : Nat → Nat) : Nat → Nat
  | 0 => 0
  | n + 1 => win s z n * s + z n
theorem win_val (s : Nat) (z : Nat → Nat) : ∀ n, val s ((List.range n).map z) = win s z n
  | 0 => rfl
  | n + 1 => by rw [List.range_succ, List.map_append, List.map_singleton, val_snoc, win_val s z n, win]
theorem win_congr (s : Nat) {z y : Nat → Nat} : ∀ n, (∀ i, i < n → z i = y i) → win s z n = win s y n
  | 0, _ => rfl
  | n + 1, h => by rw [win, win, win_congr s n fun i hi => h i (by omega), h n (Nat.lt_succ_self _)]
theorem win_lt (s : Nat) {z : Nat → Nat} : ∀ n, (∀ i, i < n → z i < s) → win s z n < s ^ n
  | 0, _ => Nat.one_pos
  | n + 1, h => by
    have h1 := win_lt s n fun i hi => h i (by omega)
    have h2 := h n (Nat.lt_succ_self _)
    rw [win, Nat.pow_succ]
    have : win s z n * s + s ≤ s ^ n * s := by
      rw [← Nat.succ_mul]
      exact Nat.mul_le_mul_right _ h1
    omega
theorem win_digit (s : Nat) {z : Nat → Nat} : ∀ n, (∀ i, i < n → z i < s) → ∀ j, j < n → win s z n / s ^ (n - 1 - j) % s = z j
  | 0, _, j, h => absurd h (Nat.not_lt_zero _)
  | n + 1, h, j, hj => by
    have h2 := h n (Nat.lt_succ_self _)
    have hs : 0 < s := by omega
    have e1 : (win s z n * s + z n) / s = win s z n := by rw [Nat.mul_comm, Nat.mul_add_div hs, Nat.div_eq_of_lt h2, Nat.add_zero]
    by_cases hjn : j < n
    · rw [win, show n + 1 - 1 - j = (n - 1 - j) + 1 by omega, Nat.pow_succ, Nat.mul_comm (s ^ _) s, ← Nat.div_div_eq_div_mul, e1]
      exact win_digit s n (fun i hi => h i (by omega)) j hjn
    · have e : j = n := by omega
      subst e
      rw [win, show j + 1 - 1 - j = 0 by omega, Nat.pow_zero, Nat.div_one, Nat.mul_comm, Nat.mul_add_mod, Nat.mod_eq_of_lt h2]
/-- two parts of a window -/
theorem win_add (s : Nat) (z : Nat → Nat) (n : Nat) : ∀ m, win s z (n + m) = win s z n * s ^ m + win s (fun i => z (n + i)) m
  | 0 => by rw [Nat.pow_zero, Nat.mul_one]; rfl
  | m + 1 => by
    rw [← Nat.add_assoc, win, win_add s z n m, win, Nat.pow_succ, Nat.add_mul, Nat.mul_assoc, Nat.add_assoc]
theorem win_word (s n k : Nat) (hs : 0 < s) (hk : k < s ^ n) : win s (fun j => k / s ^ (n - 1 - j) % s) n = k := by
  have e : (List.range n).map (fun j => k / s ^ (n - 1 - j) % s) = wordN s n k := by
    apply List.ext_getElem?
    intro j
    by_cases hj : j < n
    · rw [wordN_get s n k j hj, List.getElem?_map, List.getElem?_range hj]
      rfl
    · rw [List.getElem?_eq_none (by rw [List.length_map, List.length_range]; omega), List.getElem?_eq_none (by rw [wordN_len]; omega)]
  rw [← win_val, e, val_wordN s hs, Nat.mod_eq_of_lt hk]
end K52
/-! Tables of words: which places count, frames. -/
namespace K52

def tb (T : List Nat) (k : Nat) : Nat := T.getD k 0
/-- the program's counts_at -/
def cntAt (T : List Nat) (s w : Nat) : Bool := (List.range (T.length - w)).any fun k => decide (k / w % s < s - 1) && decide (tb T k ≠ tb T (k + w))
/-- the law's _law_counts -/
def lawCnt (T : List Nat) (s w : Nat) : Bool := (List.range T.length).any fun k => decide (tb T k ≠ tb T (k - k / w % s * w))
def someP (T : List Nat) (s n : Nat) : List Nat := (List.range n).filter fun j => cntAt T s (s ^ (n - 1 - j))
def someQ (T : List Nat) (s n : Nat) : List Nat := (List.range n).filter fun j => lawCnt T s (s ^ (n - 1 - j))
/-- the program's by_window, d: its low less the rule's -/
def bywin (T : List Nat) (s n : Nat) (d : Int) (q : Nat) : List Nat :=
  (List.range (s ^ q)).map fun k => tb T (win s (fun i => if d ≤ (i : Int) ∧ (i : Int) < d + q then k / s ^ (q - 1 - ((i : Int) - d).toNat) % s else 0) n)
/-- narrow: low, places, table -/
def narrowP (T : List Nat) (s n : Nat) (low : Int) : Int × Nat × List Nat :=
  match someP T s n with
  | [] => (0, 1, bywin T s n (0 - low) 1)
  | f :: r => (low + f, (f :: r).getLastD 0 - f + 1, bywin T s n f ((f :: r).getLastD 0 - f + 1))
def frameP (T : List Nat) (s n : Nat) (low : Int) : Int × Nat × List Nat :=
  let c := narrowP T s n low
  if c.2.1 = 1 then (c.1, 2, bywin c.2.2 s 1 0 2) else c
def lawFirst (T : List Nat) (s m : Nat) : Nat := (someQ T s m).headD 0
def lawSize (T : List Nat) (s m : Nat) : Nat := if someQ T s m = [] then 2 else max 2 ((someQ T s m).getLastD 0 - lawFirst T s m + 1)
def lawTab (T : List Nat) (s m f q : Nat) : List Nat :=
  (List.range (s ^ q)).map fun k => tb T (win s (fun j => if f ≤ j ∧ j < f + q then k / s ^ (q - 1 - (j - f)) % s else 0) m)
def lawFrame (T : List Nat) (s m : Nat) : List Nat := lawTab T s m (lawFirst T s m) (lawSize T s m)
/-- the rule told by a window with a places more ahead and b behind -/
def wideT (T : List Nat) (s m a b : Nat) : List Nat := (List.range (s ^ (a + m + b))).map fun k => tb T (k / s ^ b % s ^ m)

theorem tb_map {f : Nat → Nat} {n k : Nat} (h : k < n) : tb ((List.range n).map f) k = f k := by
  unfold tb
  rw [List.getD_eq_getElem?_getD, List.getElem?_map, List.getElem?_range h]
  rfl

/-- a place counts -/
def Cts (T : List Nat) (s m j : Nat) : Prop := ∃ k, k + s ^ (m - 1 - j) < s ^ m ∧ k / s ^ (m - 1 - j) % s < s - 1 ∧ tb T k ≠ tb T (k + s ^ (m - 1 - j))
theorem cntAt_iff {T : List Nat} {s m j : Nat} (hl : T.length = s ^ m) : cntAt T s (s ^ (m - 1 - j)) = true ↔ Cts T s m j := by
  unfold cntAt Cts
  simp only [List.any_eq_true, List.mem_range, Bool.and_eq_true, decide_eq_true_eq, hl]
  constructor
  · rintro ⟨k, h1, h2, h3⟩
    exact ⟨k, by omega, h2, h3⟩
  · rintro ⟨k, h1, h2, h3⟩
    exact ⟨k, by omega, h2, h3⟩

def upz (z : Nat → Nat) (j d : Nat) : Nat → Nat := fun i => if i = j then d else z i
theorem win_up (s : Nat) (z : Nat → Nat) {m j : Nat} (h : j < m) (d : Nat) : win s (upz z j (d + 1)) m = win s (upz z j d) m + s ^ (m - 1 - j) := by
  have e : m = (j + 1) + (m - 1 - j) := by omega
  have key : ∀ c, win s (upz z j c) m = (win s z j * s + c) * s ^ (m - 1 - j) + win s (fun i => z (j + 1 + i)) (m - 1 - j) := by
    intro c
    have h1 : win s (upz z j c) m = win s (upz z j c) ((j + 1) + (m - 1 - j)) := by rw [← e]
    rw [h1, win_add]
    congr 1
    · rw [win, win_congr s (z := upz z j c) (y := z) j (fun i hi => if_neg (by omega))]
      unfold upz
      rw [if_pos rfl]
    · exact win_congr s _ fun i hi => if_neg (by omega)
  rw [key, key]
  rw [show win s z j * s + (d + 1) = (win s z j * s + d) + 1 by omega, Nat.add_mul (win s z j * s + d) 1, Nat.one_mul]
  omega
theorem upz_self (z : Nat → Nat) (j : Nat) : upz z j (z j) = z := by
  funext i
  unfold upz
  split
  · rename_i h; rw [h]
  · rfl
/-- a place that doesn't count may be changed -/
theorem nc_change {T : List Nat} {s m j : Nat} (hn : ¬ Cts T s m j) (hj : j < m) {z : Nat → Nat} (hz : ∀ i, i < m → z i < s) : ∀ d, d < s → tb T (win s (upz z j d) m) = tb T (win s (upz z j 0) m)
  | 0, _ => rfl
  | d + 1, hd => by
    have ih := nc_change hn hj hz d (by omega)
    rw [← ih, win_up s z hj]
    have hb : ∀ c, c < s → ∀ i, i < m → upz z j c i < s := fun c hc i hi => by
      unfold upz
      split
      · exact hc
      · exact hz i hi
    have l1 := win_lt s m (hb (d + 1) hd)
    rw [win_up s z hj] at l1
    have dg := win_digit s m (hb d (by omega)) j hj
    have e : upz z j d j = d := if_pos rfl
    rw [e] at dg
    apply Classical.byContradiction
    intro hne
    exact hn ⟨win s (upz z j d) m, l1, by rw [dg]; omega, fun q => hne q.symm⟩
/-- only the places that count matter -/
theorem nc_local {T : List Nat} {s m : Nat} {z y : Nat → Nat} (hz : ∀ i, i < m → z i < s) (hy : ∀ i, i < m → y i < s) (h : ∀ j, j < m → z j ≠ y j → ¬ Cts T s m j) : tb T (win s z m) = tb T (win s y m) := by
  have step : ∀ n, n ≤ m → tb T (win s z m) = tb T (win s (fun i => if i < n then y i else z i) m) := by
    intro n
    induction n with
    | zero => intro _; congr 1
    | succ n ih =>
      intro hn
      rw [ih (by omega)]
      let x : Nat → Nat := fun i => if i < n then y i else z i
      have hx : ∀ i, i < m → x i < s := fun i hi => by
        show (if i < n then y i else z i) < s
        split
        · exact hy i hi
        · exact hz i hi
      have e1 : (fun i => if i < n then y i else z i) = upz x n (z n) := by
        funext i
        unfold upz
        by_cases hi : i = n
        · rw [if_pos hi, if_neg (by omega), hi]
        · rw [if_neg hi]
      have e2 : (fun i => if i < n + 1 then y i else z i) = upz x n (y n) := by
        funext i
        unfold upz
        by_cases hi : i = n
        · rw [if_pos hi, if_pos (by omega), hi]
        · rw [if_neg hi]
          show _ = if i < n then y i else z i
          by_cases h2 : i < n
          · rw [if_pos h2, if_pos (by omega)]
          · rw [if_neg h2, if_neg (by omega)]
      rw [e1, e2]
      by_cases q : z n = y n
      · rw [q]
      · have nc := h n (by omega) q
        rw [nc_change nc (by omega) hx _ (hz n (by omega)), nc_change nc (by omega) hx _ (hy n (by omega))]
  rw [step m (Nat.le_refl _)]
  congr 1
  exact win_congr s m fun i hi => if_pos hi

theorem lawCnt_iff {T : List Nat} {s m j : Nat} (hs : 2 ≤ s) (hj : j < m) (hl : T.length = s ^ m) : lawCnt T s (s ^ (m - 1 - j)) = true ↔ Cts T s m j := by
  have hw : 0 < s ^ (m - 1 - j) := Nat.pow_pos (by omega)
  constructor
  · intro h
    apply Classical.byContradiction
    intro hn
    unfold lawCnt at h
    simp only [List.any_eq_true, List.mem_range, decide_eq_true_eq, hl] at h
    obtain ⟨k, hk, hne⟩ := h
    let z : Nat → Nat := fun i => k / s ^ (m - 1 - i) % s
    have hz : ∀ i, i < m → z i < s := fun i _ => Nat.mod_lt _ (by omega)
    have e1 : win s z m = k := win_word s m k (by omega) hk
    have key := nc_change hn hj hz (z j) (hz j hj)
    rw [upz_self, e1] at key
    have sh : ∀ d, win s (upz z j d) m = win s (upz z j 0) m + d * s ^ (m - 1 - j) := by
      intro d
      induction d with
      | zero => rw [Nat.zero_mul, Nat.add_zero]
      | succ d ih => rw [win_up s z hj, ih, Nat.succ_mul, Nat.add_assoc]
    have e2 := sh (z j)
    rw [upz_self, e1] at e2
    refine hne ?_
    rw [key]
    congr 1
    show _ = k - z j * s ^ (m - 1 - j)
    omega
  · rintro ⟨k, h1, h2, h3⟩
    apply Classical.byContradiction
    intro hn
    have hn' : ∀ k, k < s ^ m → tb T k = tb T (k - k / s ^ (m - 1 - j) % s * s ^ (m - 1 - j)) := by
      intro k hk
      apply Classical.byContradiction
      intro q
      apply hn
      unfold lawCnt
      simp only [List.any_eq_true, List.mem_range, decide_eq_true_eq, hl]
      exact ⟨k, hk, q⟩
    have a1 := hn' k (by omega)
    have a2 := hn' (k + s ^ (m - 1 - j)) h1
    apply h3
    rw [a1, a2]
    congr 1
    rw [Nat.add_div_right _ hw]
    have e : (k / s ^ (m - 1 - j) + 1) % s = k / s ^ (m - 1 - j) % s + 1 := by
      rw [Nat.add_mod, Nat.mod_eq_of_lt (show 1 < s by omega), Nat.mod_eq_of_lt (by omega)]
    rw [e, Nat.add_mul, Nat.one_mul]
    omega

theorem some_eq {T : List Nat} {s m : Nat} (hs : 2 ≤ s) (hl : T.length = s ^ m) : someP T s m = someQ T s m := by
  unfold someP someQ
  apply List.filter_congr
  intro j hj
  have hj := List.mem_range.mp hj
  have a := cntAt_iff (j := j) hl
  have b := lawCnt_iff hs hj hl
  rw [Bool.eq_iff_iff, a, b]
theorem mem_someQ {T : List Nat} {s m j : Nat} (hs : 2 ≤ s) (hl : T.length = s ^ m) : j ∈ someQ T s m ↔ j < m ∧ Cts T s m j := by
  unfold someQ
  rw [List.mem_filter, List.mem_range]
  constructor
  · rintro ⟨h1, h2⟩
    exact ⟨h1, (lawCnt_iff hs h1 hl).mp h2⟩
  · rintro ⟨h1, h2⟩
    exact ⟨h1, (lawCnt_iff hs h1 hl).mpr h2⟩

/-- the head of a filtered range is its least, the last its greatest -/
theorem filter_ends {p : Nat → Bool} {n : Nat} {f : Nat} {r : List Nat} (h : (List.range n).filter p = f :: r) :
    (∀ j, j < n → p j = true → f ≤ j ∧ j ≤ (f :: r).getLastD 0) ∧ f < n ∧ p f = true ∧ (f :: r).getLastD 0 < n ∧ p ((f :: r).getLastD 0) = true ∧ f ≤ (f :: r).getLastD 0 := by
  have hp : (f :: r).Pairwise (· < ·) := by
    rw [← h]
    exact List.Pairwise.filter _ (List.pairwise_lt_range)
  have memf : f ∈ (List.range n).filter p := by rw [h]; exact List.mem_cons_self
  have eL : (f :: r).getLastD 0 = (f :: r).getLast (by simp) := by
    rw [List.getLastD_eq_getLast?, List.getLast?_eq_some_getLast (by simp)]
    rfl
  have memL : (f :: r).getLastD 0 ∈ (List.range n).filter p := by
    rw [h, eL]
    exact List.getLast_mem _
  have all : ∀ j ∈ f :: r, f ≤ j ∧ j ≤ (f :: r).getLastD 0 := by
    intro j hj
    constructor
    · rcases List.mem_cons.mp hj with e | e
      · omega
      · exact Nat.le_of_lt ((List.pairwise_cons.mp hp).1 j e)
    · rw [eL]
      obtain ⟨i, hi, e⟩ := List.mem_iff_getElem.mp hj
      rw [List.getLast_eq_getElem]
      rw [← e]
      by_cases q : i = (f :: r).length - 1
      · simp [q]
      · exact Nat.le_of_lt (List.pairwise_iff_getElem.mp hp i _ hi (by omega) (by omega))
  have m1 := List.mem_filter.mp memf
  have m2 := List.mem_filter.mp memL
  refine ⟨fun j hj hpj => all j ?_, List.mem_range.mp m1.1, m1.2, List.mem_range.mp m2.1, m2.2, (all _ (h ▸ memL)).1⟩
  rw [← h]
  exact List.mem_filter.mpr ⟨List.mem_range.mpr hj, hpj⟩
end K52
/-! The frame: the program's is the law's; the core's table by the frame's. -/
namespace K52

theorem wide_win {T : List Nat} {s m a b : Nat} (hs : 0 < s) {z : Nat → Nat} (hz : ∀ i, i < a + m + b → z i < s) : tb (wideT T s m a b) (win s z (a + m + b)) = tb T (win s (fun j => z (a + j)) m) := by
  have hlt := win_lt s _ hz
  unfold wideT
  rw [tb_map hlt]
  congr 1
  have hb : win s (fun i => z (a + m + i)) b < s ^ b := win_lt s b fun i hi => hz _ (by omega)
  have hm : win s (fun j => z (a + j)) m < s ^ m := win_lt s m fun i hi => hz _ (by omega)
  have pb : 0 < s ^ b := Nat.pow_pos hs
  rw [win_add s z (a + m) b, Nat.mul_comm, Nat.mul_add_div pb, Nat.div_eq_of_lt hb, Nat.add_zero, win_add s z a m, Nat.mul_comm, Nat.mul_add_mod, Nat.mod_eq_of_lt hm]
theorem wide_len {T : List Nat} {s m a b : Nat} : (wideT T s m a b).length = s ^ (a + m + b) := by
  unfold wideT
  rw [List.length_map, List.length_range]

/-- counting by windows -/
theorem cts_win {T : List Nat} {s m j : Nat} (hs : 2 ≤ s) (hj : j < m) : Cts T s m j ↔ ∃ z : Nat → Nat, ∃ d, (∀ i, i < m → z i < s) ∧ d + 1 < s ∧ tb T (win s (upz z j d) m) ≠ tb T (win s (upz z j (d + 1)) m) := by
  constructor
  · rintro ⟨k, h1, h2, h3⟩
    have hk : k < s ^ m := by omega
    let z : Nat → Nat := fun i => k / s ^ (m - 1 - i) % s
    have e1 : win s z m = k := win_word s m k (by omega) hk
    refine ⟨z, z j, fun i _ => Nat.mod_lt _ (by omega), by show k / s ^ (m - 1 - j) % s + 1 < s; omega, ?_⟩
    rw [win_up s z hj, upz_self, e1]
    exact h3
  · rintro ⟨z, d, hz, hd, hne⟩
    have hb : ∀ c, c < s → ∀ i, i < m → upz z j c i < s := fun c hc i hi => by
      unfold upz
      split
      · exact hc
      · exact hz i hi
    have l1 := win_lt s m (hb (d + 1) hd)
    rw [win_up s z hj] at l1 hne
    have dg := win_digit s m (hb d (by omega)) j hj
    rw [show upz z j d j = d from if_pos rfl] at dg
    exact ⟨_, l1, by rw [dg]; omega, hne⟩
theorem cts_wide {T : List Nat} {s m a b j : Nat} (hs : 2 ≤ s) (hj : j < a + m + b) : Cts (wideT T s m a b) s (a + m + b) j ↔ a ≤ j ∧ j < a + m ∧ Cts T s m (j - a) := by
  rw [cts_win hs hj]
  constructor
  · rintro ⟨z, d, hz, hd, hne⟩
    have hb : ∀ c, c < s → ∀ i, i < a + m + b → upz z j c i < s := fun c hc i hi => by
      unfold upz
      split
      · exact hc
      · exact hz i hi
    rw [wide_win (by omega) (hb d (by omega)), wide_win (by omega) (hb (d + 1) hd)] at hne
    by_cases h1 : a ≤ j ∧ j < a + m
    · refine ⟨h1.1, h1.2, (cts_win hs (by omega)).mpr ⟨fun i => z (a + i), d, fun i hi => hz _ (by omega), hd, ?_⟩⟩
      have e : ∀ c, (fun i => upz z j c (a + i)) = upz (fun i => z (a + i)) (j - a) c := fun c => by
        funext i
        unfold upz
        by_cases q : a + i = j
        · rw [if_pos q, if_pos (by omega)]
        · rw [if_neg q, if_neg (by omega)]
      rw [← e, ← e]
      exact hne
    · refine absurd ?_ hne
      congr 1
      refine win_congr s m fun i hi => ?_
      unfold upz
      rw [if_neg (by omega), if_neg (by omega)]
  · rintro ⟨h1, h2, hc⟩
    obtain ⟨z, d, hz, hd, hne⟩ := (cts_win hs (by omega)).mp hc
    let y : Nat → Nat := fun i => if a ≤ i ∧ i < a + m then z (i - a) else 0
    have hy : ∀ i, i < a + m + b → y i < s := fun i _ => by
      show (if a ≤ i ∧ i < a + m then z (i - a) else 0) < s
      split
      · exact hz _ (by omega)
      · omega
    have hb : ∀ c, c < s → ∀ i, i < a + m + b → upz y j c i < s := fun c hc i hi => by
      unfold upz
      split
      · exact hc
      · exact hy i hi
    have e : ∀ c, win s (fun i => upz y j c (a + i)) m = win s (upz z (j - a) c) m := fun c => win_congr s m fun i hi => by
      unfold upz
      by_cases q : a + i = j
      · rw [if_pos q, if_pos (by omega)]
      · rw [if_neg q, if_neg (by omega)]
        show (if a ≤ a + i ∧ a + i < a + m then z (a + i - a) else 0) = _
        rw [if_pos (by omega)]
        congr 1
        omega
    refine ⟨y, d, hy, hd, ?_⟩
    rw [wide_win (by omega) (hb d (by omega)), wide_win (by omega) (hb (d + 1) hd), e, e]
    exact hne

theorem tb_lt {T : List Nat} {s : Nat} (hs : 0 < s) (h : ∀ d ∈ T, d < s) (k : Nat) : tb T k < s := by
  unfold tb
  rw [List.getD_eq_getElem?_getD]
  cases e : T[k]? with
  | none => exact hs
  | some d => exact h d (List.mem_of_getElem? e)

theorem bywin_len (T : List Nat) (s n : Nat) (d : Int) (q : Nat) : (bywin T s n d q).length = s ^ q := by
  unfold bywin
  rw [List.length_map, List.length_range]
theorem lawTab_len (T : List Nat) (s m f q : Nat) : (lawTab T s m f q).length = s ^ q := by
  unfold lawTab
  rw [List.length_map, List.length_range]
theorem tb_lawTab {T : List Nat} {s m f q k : Nat} (h : k < s ^ q) : tb (lawTab T s m f q) k = tb T (win s (fun j => if f ≤ j ∧ j < f + q then k / s ^ (q - 1 - (j - f)) % s else 0) m) := tb_map h

/-- the frame's table by windows of any row -/
theorem frame_win {T : List Nat} {s m f q : Nat} (hs : 2 ≤ s) (hf : ∀ j, j < m → Cts T s m j → f ≤ j ∧ j < f + q) {z : Nat → Nat} (hz : ∀ i, z i < s) : tb T (win s z m) = tb (lawTab T s m f q) (win s (fun j => z (f + j)) q) := by
  rw [tb_lawTab (win_lt s q fun i _ => hz _)]
  refine nc_local (fun i _ => hz i) (fun i _ => ?_) fun j hj hne hc => hne ?_
  · split
    · exact Nat.mod_lt _ (by omega)
    · omega
  · obtain ⟨h1, h2⟩ := hf j hj hc
    rw [if_pos ⟨h1, h2⟩, win_digit s q (fun i _ => hz _) (j - f) (by omega)]
    congr 1
    omega

theorem law_covers {T : List Nat} {s m : Nat} (hs : 2 ≤ s) (hl : T.length = s ^ m) : ∀ j, j < m → Cts T s m j → lawFirst T s m ≤ j ∧ j < lawFirst T s m + lawSize T s m := by
  intro j hj hc
  unfold lawFirst lawSize lawFirst
  cases e : someQ T s m with
  | nil =>
    have : j ∈ someQ T s m := (mem_someQ hs hl).mpr ⟨hj, hc⟩
    rw [e] at this
    cases this
  | cons f r =>
    obtain ⟨h1, _⟩ := filter_ends e
    obtain ⟨h2, h3⟩ := h1 j hj ((lawCnt_iff hs hj hl).mpr hc)
    rw [if_neg (by simp)]
    show f ≤ j ∧ j < f + max 2 ((f :: r).getLastD 0 - f + 1)
    omega
theorem lawSize_ge (T : List Nat) (s m : Nat) : 2 ≤ lawSize T s m := by
  unfold lawSize
  split <;> omega
theorem lawSize_le {T : List Nat} {s m : Nat} : lawSize T s m ≤ max 2 m := by
  unfold lawSize lawFirst
  cases e : someQ T s m with
  | nil => rw [if_pos rfl]; omega
  | cons f r =>
    obtain ⟨_, _, _, h4, _⟩ := filter_ends e
    rw [if_neg (by simp)]
    show max 2 ((f :: r).getLastD 0 - f + 1) ≤ _
    omega
/-- THE CORE BY ITS FRAME -/
theorem core_win {T : List Nat} {s m : Nat} (hs : 2 ≤ s) (hl : T.length = s ^ m) {z : Nat → Nat} (hz : ∀ i, z i < s) : tb T (win s z m) = tb (lawFrame T s m) (win s (fun j => z (lawFirst T s m + j)) (lawSize T s m)) :=
  frame_win hs (law_covers hs hl) hz
theorem lawFrame_len (T : List Nat) (s m : Nat) : (lawFrame T s m).length = s ^ lawSize T s m := lawTab_len _ _ _ _ _
theorem lawFrame_lt {T : List Nat} {s m : Nat} (hs : 0 < s) (h : ∀ d ∈ T, d < s) : ∀ d ∈ lawFrame T s m, d < s := by
  intro d hd
  unfold lawFrame lawTab at hd
  obtain ⟨k, _, e⟩ := List.mem_map.mp hd
  rw [← e]
  exact tb_lt hs h _
end K52
/-! The program's frame of the core told wider is the law's frame. -/
namespace K52

theorem mem_someP_wide {T : List Nat} {s m a b j : Nat} (hs : 2 ≤ s) : j ∈ someP (wideT T s m a b) s (a + m + b) ↔ a ≤ j ∧ j < a + m ∧ Cts T s m (j - a) := by
  unfold someP
  rw [List.mem_filter, List.mem_range]
  constructor
  · rintro ⟨h1, h2⟩
    exact (cts_wide hs h1).mp ((cntAt_iff wide_len).mp h2)
  · intro h
    have hj : j < a + m + b := by omega
    exact ⟨hj, (cntAt_iff wide_len).mpr ((cts_wide hs hj).mpr h)⟩
theorem some_wide_nil {T : List Nat} {s m a b : Nat} (hs : 2 ≤ s) (hl : T.length = s ^ m) (h : someQ T s m = []) : someP (wideT T s m a b) s (a + m + b) = [] := by
  apply List.eq_nil_iff_forall_not_mem.mpr
  intro j hj
  obtain ⟨h1, h2, h3⟩ := (mem_someP_wide hs).mp hj
  have : j - a ∈ someQ T s m := (mem_someQ hs hl).mpr ⟨by omega, h3⟩
  rw [h] at this
  cases this
theorem some_wide_cons {T : List Nat} {s m a b f : Nat} {r : List Nat} (hs : 2 ≤ s) (hl : T.length = s ^ m) (h : someQ T s m = f :: r) :
    ∃ r', someP (wideT T s m a b) s (a + m + b) = (a + f) :: r' ∧ ((a + f) :: r').getLastD 0 = a + (f :: r).getLastD 0 := by
  obtain ⟨h1, h2, h3, h4, h5, h6⟩ := filter_ends h
  have mf : (a + f) ∈ someP (wideT T s m a b) s (a + m + b) := (mem_someP_wide hs).mpr ⟨by omega, by omega, by rw [Nat.add_sub_cancel_left]; exact (lawCnt_iff hs h2 hl).mp h3⟩
  have ml : (a + (f :: r).getLastD 0) ∈ someP (wideT T s m a b) s (a + m + b) := (mem_someP_wide hs).mpr ⟨by omega, by omega, by rw [Nat.add_sub_cancel_left]; exact (lawCnt_iff hs h4 hl).mp h5⟩
  cases e : someP (wideT T s m a b) s (a + m + b) with
  | nil => rw [e] at mf; cases mf
  | cons f' r' =>
    obtain ⟨g1, g2, g3, g4, g5, g6⟩ := filter_ends e
    have back : ∀ j, j < a + m + b → cntAt (wideT T s m a b) s (s ^ (a + m + b - 1 - j)) = true → a + f ≤ j ∧ j ≤ a + (f :: r).getLastD 0 := fun j hj hc => by
      obtain ⟨k1, k2, k3⟩ := (cts_wide hs hj).mp ((cntAt_iff wide_len).mp hc)
      have := h1 (j - a) (by omega) ((lawCnt_iff hs (by omega) hl).mpr k3)
      omega
    have q1 := back f' g2 g3
    have q2 := back _ g4 g5
    have m1 := (List.mem_filter.mp (show a + f ∈ (List.range (a + m + b)).filter _ from mf))
    have m2 := (List.mem_filter.mp (show a + (f :: r).getLastD 0 ∈ (List.range (a + m + b)).filter _ from ml))
    have p1 := g1 _ (List.mem_range.mp m1.1) m1.2
    have p2 := g1 _ (List.mem_range.mp m2.1) m2.2
    have ef : f' = a + f := by omega
    subst ef
    exact ⟨r', rfl, by omega⟩

theorem map_eq {f g : Nat → Nat} {n : Nat} (h : ∀ k, k < n → f k = g k) : (List.range n).map f = (List.range n).map g :=
  List.map_congr_left fun k hk => h k (List.mem_range.mp hk)

/-- narrow's table, from d on, q places, of the wide rule -/
theorem bywin_wide {T : List Nat} {s m a b f q k : Nat} (hs : 2 ≤ s) (hk : k < s ^ q) :
    tb (bywin (wideT T s m a b) s (a + m + b) ((a + f : Nat) : Int) q) k = tb T (win s (fun j => if f ≤ j ∧ j < f + q then k / s ^ (q - 1 - (j - f)) % s else 0) m) := by
  unfold bywin
  rw [tb_map hk, wide_win (by omega)]
  · congr 1
    refine win_congr s m fun j hj => ?_
    by_cases h : f ≤ j ∧ j < f + q
    · rw [if_pos h, if_pos (by omega)]
      congr 3
      omega
    · rw [if_neg h, if_neg (by omega)]
  · intro i hi
    show (if _ then _ else _) < s
    split
    · exact Nat.mod_lt _ (by omega)
    · omega
/-- all alike -/
theorem tb_const {T : List Nat} {s m : Nat} (hs : 2 ≤ s) (hn : ∀ j, j < m → ¬ Cts T s m j) {z y : Nat → Nat} (hz : ∀ i, i < m → z i < s) (hy : ∀ i, i < m → y i < s) : tb T (win s z m) = tb T (win s y m) :=
  nc_local hz hy fun j hj _ => hn j hj

theorem bywin_list (T : List Nat) (s n : Nat) (d : Int) (q : Nat) {g : Nat → Nat} (h : ∀ k, k < s ^ q → tb T (win s (fun i => if d ≤ (i : Int) ∧ (i : Int) < d + q then k / s ^ (q - 1 - ((i : Int) - d).toNat) % s else 0) n) = g k) :
    bywin T s n d q = (List.range (s ^ q)).map g := map_eq h
theorem frameP_eq {T : List Nat} {s m a b : Nat} (low : Int) (hs : 2 ≤ s) (hl : T.length = s ^ m) :
    (frameP (wideT T s m a b) s (a + m + b) low).2 = (lawSize T s m, lawFrame T s m) := by
  have dig : ∀ (f q k : Nat) (n : Nat), ∀ i, i < n → (if f ≤ i ∧ i < f + q then k / s ^ (q - 1 - (i - f)) % s else 0) < s := fun f q k n i _ => by
    split
    · exact Nat.mod_lt _ (by omega)
    · omega
  cases e : someQ T s m with
  | nil =>
    have hn : ∀ j, j < m → ¬ Cts T s m j := fun j hj hc => by
      have : j ∈ someQ T s m := (mem_someQ hs hl).mpr ⟨hj, hc⟩
      rw [e] at this
      cases this
    have e1 := some_wide_nil (a := a) (b := b) hs hl e
    unfold frameP narrowP lawFrame lawSize lawFirst
    rw [e1, e]
    show (2, bywin (bywin (wideT T s m a b) s (a + m + b) (0 - low) 1) s 1 0 2) = (2, lawTab T s m 0 2)
    congr 1
    unfold lawTab
    refine bywin_list _ _ _ _ _ fun k hk => ?_
    have hd : ∀ i : Nat, i < 1 → (if (0 : Int) ≤ (i : Int) ∧ (i : Int) < 0 + ((2 : Nat) : Int) then k / s ^ (2 - 1 - ((i : Int) - 0).toNat) % s else 0) < s := fun i _ => by
      split
      · exact Nat.mod_lt _ (by omega)
      · omega
    have hw := win_lt s 1 hd
    unfold bywin
    rw [tb_map (by rw [Nat.pow_one] at hw ⊢; exact hw), wide_win (by omega)]
    · refine tb_const hs hn (fun i hi => ?_) (dig _ _ _ _)
      show (if _ then _ else _) < s
      split
      · exact Nat.mod_lt _ (by omega)
      · omega
    · intro i hi
      show (if _ then _ else _) < s
      split
      · exact Nat.mod_lt _ (by omega)
      · omega
  | cons f r =>
    obtain ⟨r', e1, e2⟩ := some_wide_cons (a := a) (b := b) hs hl e
    obtain ⟨h1, h2, h3, h4, h5, h6⟩ := filter_ends e
    have eF : lawFirst T s m = f := by unfold lawFirst; rw [e]; rfl
    have eS : lawSize T s m = max 2 ((f :: r).getLastD 0 - f + 1) := by
      unfold lawSize
      rw [eF, e, if_neg (by simp)]
    have eN : narrowP (wideT T s m a b) s (a + m + b) low = (low + ((a + f : Nat) : Int), (f :: r).getLastD 0 - f + 1, bywin (wideT T s m a b) s (a + m + b) ((a + f : Nat) : Int) ((f :: r).getLastD 0 - f + 1)) := by
      unfold narrowP
      rw [e1]
      show (_, ((a + f) :: r').getLastD 0 - (a + f) + 1, bywin _ _ _ _ (((a + f) :: r').getLastD 0 - (a + f) + 1)) = _
      rw [e2, show a + (f :: r).getLastD 0 - (a + f) + 1 = (f :: r).getLastD 0 - f + 1 by omega]
    unfold frameP
    rw [eN]
    unfold lawFrame
    rw [eF, eS]
    by_cases hq : (f :: r).getLastD 0 - f + 1 = 1
    · rw [hq]
      show (2, bywin (bywin (wideT T s m a b) s (a + m + b) ((a + f : Nat) : Int) 1) s 1 0 2) = (2, lawTab T s m f 2)
      congr 1
      unfold lawTab
      refine bywin_list _ _ _ _ _ fun k hk => ?_
      have ek : win s (fun i => if (0 : Int) ≤ (i : Int) ∧ (i : Int) < 0 + ((2 : Nat) : Int) then k / s ^ (2 - 1 - ((i : Int) - 0).toNat) % s else 0) 1 = k / s % s := by
        show 0 * s + (if (0 : Int) ≤ ((0 : Nat) : Int) ∧ ((0 : Nat) : Int) < 0 + ((2 : Nat) : Int) then k / s ^ (2 - 1 - (((0 : Nat) : Int) - 0).toNat) % s else 0) = _
        rw [if_pos (by omega), Nat.zero_mul, Nat.zero_add]
        show k / s ^ 1 % s = _
        rw [Nat.pow_one]
      have hks : k / s % s < s ^ 1 := by rw [Nat.pow_one]; exact Nat.mod_lt _ (by omega)
      rw [ek, bywin_wide hs hks]
      refine nc_local (dig _ _ _ _) (dig _ _ _ _) fun j hj hne hc => hne ?_
      have := h1 j hj ((lawCnt_iff hs hj hl).mpr hc)
      have ej : j = f := by omega
      subst ej
      rw [if_pos (by omega), if_pos (by omega)]
      rw [show 0 - (j - j) = 0 by omega, show 2 - 1 - (j - j) = 1 by omega, Nat.pow_zero, Nat.div_one, Nat.pow_one, Nat.mod_mod]
    · show (if (f :: r).getLastD 0 - f + 1 = 1 then _ else (_ : Int × Nat × List Nat)).2 = _
      rw [if_neg hq]
      have em : max 2 ((f :: r).getLastD 0 - f + 1) = (f :: r).getLastD 0 - f + 1 := by omega
      rw [em]
      show (_, _) = (_, _)
      congr 1
      apply List.ext_getElem?
      intro k
      by_cases hk : k < s ^ ((f :: r).getLastD 0 - f + 1)
      · have a1 := bywin_wide (T := T) (m := m) (a := a) (b := b) (f := f) hs hk
        rw [← tb_lawTab hk] at a1
        unfold tb at a1
        rw [List.getD_eq_getElem?_getD, List.getD_eq_getElem?_getD, List.getElem?_eq_getElem (by rw [bywin_len]; exact hk), List.getElem?_eq_getElem (by rw [lawTab_len]; exact hk)] at a1
        rw [List.getElem?_eq_getElem (by rw [bywin_len]; exact hk), List.getElem?_eq_getElem (by rw [lawTab_len]; exact hk)]
        exact congrArg some a1
      · rw [List.getElem?_eq_none (by rw [bywin_len]; omega), List.getElem?_eq_none (by rw [lawTab_len]; omega)]
end K52
/-! Kahn's way over a graph: what is told, ranks. -/
namespace K52

theorem nodup_le {α : Type} [DecidableEq α] : ∀ {l r : List α}, l.Nodup → (∀ x ∈ l, x ∈ r) → l.length ≤ r.length
  | [], _, _, _ => Nat.zero_le _
  | a :: l, r, hn, hs => by
    have ha : a ∈ r := hs a List.mem_cons_self
    obtain ⟨h1, h2⟩ := List.nodup_cons.mp hn
    have ih := nodup_le (l := l) (r := r.erase a) h2 fun x hx => by
      have hne : x ≠ a := fun e => h1 (e ▸ hx)
      exact (List.mem_erase_of_ne hne).mpr (hs x (List.mem_cons_of_mem _ hx))
    have hl := List.length_erase_of_mem ha
    have hp : 0 < r.length := List.length_pos_of_mem ha
    rw [List.length_cons]
    omega
theorem nodup_full {α : Type} [DecidableEq α] {l r : List α} (hn : l.Nodup) (hs : ∀ x ∈ l, x ∈ r) (hr : r.Nodup) (hl : r.length ≤ l.length) : ∀ x ∈ r, x ∈ l := by
  intro x hx
  apply Classical.byContradiction
  intro hxl
  have := nodup_le (l := x :: l) (r := r) (List.nodup_cons.mpr ⟨hxl, hn⟩) fun y hy => by
    rcases List.mem_cons.mp hy with e | e
    · rw [e]; exact hx
    · exact hs y e
  rw [List.length_cons] at this
  omega
theorem nodup_lt {l : List Nat} {n : Nat} (hn : l.Nodup) (h : ∀ x ∈ l, x < n) : l.length ≤ n := by
  have := nodup_le (r := List.range n) hn fun x hx => List.mem_range.mpr (h x hx)
  rwa [List.length_range] at this

def upf {β : Type} (c : Nat → β) (k : Nat) (v : β) : Nat → β := fun x => if x = k then v else c x
theorem upf_same {β : Type} (c : Nat → β) (k : Nat) (v : β) : upf c k v k = v := if_pos rfl
theorem upf_ne {β : Type} (c : Nat → β) {k x : Nat} (v : β) (h : x ≠ k) : upf c k v x = c x := if_neg h

structure KS where
  come : Nat → Int
  rank : Nat → Option Int
  ready : List Nat
def kEnd (b : Nat) (S : KS) (e : Nat) : KS where
  come := upf S.come e (S.come e - 1)
  rank := upf S.rank e (some (max ((S.rank e).getD 0) ((S.rank b).getD 0 + 1)))
  ready := if S.come e - 1 = 0 then S.ready ++ [e] else S.ready
def kSet (S : KS) (b : Nat) : KS := { S with rank := if (S.rank b).isSome then S.rank else upf S.rank b (some 0) }
def kBegin (adj : Nat → List Nat) (S : KS) (b : Nat) : KS := (adj b).foldl (kEnd b) (kSet S b)
def kLoop (adj : Nat → List Nat) : Nat → Nat → KS → KS
  | 0, _, S => S
  | n + 1, i, S => match S.ready[i]? with
    | none => S
    | some b => kLoop adj n (i + 1) (kBegin adj S b)
def comeF (K : List Nat) (adj : Nat → List Nat) : Nat → Int := K.foldl (fun c b => (adj b).foldl (fun c e => upf c e (c e + 1)) c) fun _ => 0
def kStart (K : List Nat) (adj : Nat → List Nat) : KS := ⟨comeF K adj, fun _ => none, K.filter fun b => decide (comeF K adj b = 0)⟩
def kahn (K : List Nat) (adj : Nat → List Nat) : KS := kLoop adj K.length 0 (kStart K adj)

/-- how many of K, none of P, step to x -/
def cnt (K : List Nat) (adj : Nat → List Nat) (P : List Nat) (x : Nat) : Nat := K.countP fun b => decide (¬ b ∈ P) && decide (x ∈ adj b)
theorem cnt_more {K : List Nat} {adj : Nat → List Nat} {P : List Nat} {b x : Nat} (hK : K.Nodup) (hb : b ∈ K) (hP : ¬ b ∈ P) :
    (cnt K adj P x : Int) = cnt K adj (P ++ [b]) x + (if x ∈ adj b then 1 else 0) := by
  unfold cnt
  induction K with
  | nil => cases hb
  | cons a K ih =>
    obtain ⟨h1, h2⟩ := List.nodup_cons.mp hK
    rw [List.countP_cons, List.countP_cons]
    by_cases e : a = b
    · subst e
      have same : (K.countP fun c => decide (¬ c ∈ P) && decide (x ∈ adj c)) = K.countP fun c => decide (¬ c ∈ P ++ [a]) && decide (x ∈ adj c) := by
        apply List.countP_congr
        intro c hc
        have hne : c ≠ a := fun q => h1 (q ▸ hc)
        simp [hne]
      rw [same]
      simp [hP]
      split <;> simp_all
    · have hb' : b ∈ K := by
        rcases List.mem_cons.mp hb with q | q
        · exact absurd q.symm e
        · exact q
      have := ih h2 hb'
      have e2 : (decide (¬ a ∈ P) && decide (x ∈ adj a)) = (decide (¬ a ∈ P ++ [b]) && decide (x ∈ adj a)) := by simp [e]
      rw [e2]
      omega

structure Gr (K : List Nat) (adj : Nat → List Nat) : Prop where
  nd : K.Nodup
  each : ∀ b ∈ K, (adj b).Nodup ∧ ∀ e ∈ adj b, e ∈ K

theorem come_fold {K : List Nat} {adj : Nat → List Nat} (G : Gr K adj) (x : Nat) : comeF K adj x = (cnt K adj [] x : Nat) := by
  have inner : ∀ (es : List Nat) (c : Nat → Int), es.Nodup → (es.foldl (fun c e => upf c e (c e + 1)) c) x = c x + (if x ∈ es then 1 else 0) := by
    intro es
    induction es with
    | nil => intro c _; simp
    | cons e es ih =>
      intro c hn
      obtain ⟨h1, h2⟩ := List.nodup_cons.mp hn
      rw [List.foldl_cons, ih _ h2]
      by_cases q : x = e
      · subst q
        rw [upf_same, if_neg h1, if_pos List.mem_cons_self]
        omega
      · rw [upf_ne _ _ q]
        simp [q]
  have outer : ∀ (L : List Nat) (c : Nat → Int), (∀ b ∈ L, (adj b).Nodup) → (L.foldl (fun c b => (adj b).foldl (fun c e => upf c e (c e + 1)) c) c) x = c x + (cnt L adj [] x : Nat) := by
    intro L
    induction L with
    | nil => intro c _; simp [cnt]
    | cons b L ih =>
      intro c hn
      rw [List.foldl_cons, ih _ (fun a ha => hn a (List.mem_cons_of_mem _ ha)), inner _ _ (hn b List.mem_cons_self)]
      unfold cnt
      rw [List.countP_cons]
      by_cases q : x ∈ adj b <;> simp [q] <;> omega
  have := outer K (fun _ => 0) fun b hb => (G.each b hb).1
  unfold comeF
  rw [this]
  simp

structure KInv (K : List Nat) (adj : Nat → List Nat) (i : Nat) (S : KS) : Prop where
  nd : S.ready.Nodup
  sub : ∀ x ∈ S.ready, x ∈ K
  cm : ∀ x ∈ K, S.come x = (cnt K adj (S.ready.take i) x : Nat)
  rd : ∀ x ∈ K, x ∈ S.ready ↔ S.come x = 0
  rk : ∀ b ∈ S.ready.take i, ∃ r, S.rank b = some r ∧ ∀ x ∈ adj b, ∃ q, S.rank x = some q ∧ r + 1 ≤ q
/-- within a turn -/
structure KIn (K : List Nat) (adj : Nat → List Nat) (P : List Nat) (b : Nat) (r : Int) (S0 : KS) (es : List Nat) (S : KS) : Prop where
  nd : S.ready.Nodup
  sub : ∀ x ∈ S.ready, x ∈ K
  pre : ∃ more, S.ready = S0.ready ++ more
  cm : ∀ x ∈ K, S.come x = (cnt K adj P x : Nat) - (if x ∈ es then 1 else 0)
  rd : ∀ x ∈ K, x ∈ S.ready ↔ S.come x = 0
  rb : S.rank b = some r
  rx : ∀ x ∈ es, ∃ q, S.rank x = some q ∧ r + 1 ≤ q
  old : ∀ p ∈ S0.ready, S.rank p = S0.rank p
  mon : ∀ x q, S0.rank x = some q → ∃ q', S.rank x = some q' ∧ q ≤ q'

theorem kEnd_ok {K : List Nat} {adj : Nat → List Nat} {P : List Nat} {b e : Nat} {r : Int} {S0 S : KS} {es : List Nat} (hb : b ∈ K) (hbP : ¬ b ∈ P) (hb0 : b ∈ S0.ready) (he : e ∈ adj b) (heK : e ∈ K) (hes : ¬ e ∈ es)
    (I : KIn K adj P b r S0 es S) : KIn K adj P b r S0 (es ++ [e]) (kEnd b S e) := by
  obtain ⟨more, hm⟩ := I.pre
  have c1 := I.cm e heK
  rw [if_neg hes] at c1
  have hpos : 0 < cnt K adj P e := by
    unfold cnt
    rw [List.countP_pos_iff]
    exact ⟨b, hb, by simp [hbP, he]⟩
  have hnr : ¬ e ∈ S.ready := fun q => by
    have := (I.rd e heK).mp q
    omega
  have hn0 : ∀ p ∈ S0.ready, p ≠ e := fun p hp q => hnr (by rw [hm, ← q]; exact List.mem_append_left _ hp)
  have hmem : ∀ x, x ∈ (kEnd b S e).ready ↔ x ∈ S.ready ∨ (x = e ∧ S.come e - 1 = 0) := fun x => by
    show x ∈ (if S.come e - 1 = 0 then S.ready ++ [e] else S.ready) ↔ _
    split
    · rename_i h; simp [h]
    · rename_i h; simp [h]
  refine ⟨?_, ?_, ?_, ?_, ?_, ?_, ?_, ?_, ?_⟩
  · show (if S.come e - 1 = 0 then S.ready ++ [e] else S.ready).Nodup
    split
    · rw [List.nodup_append]
      exact ⟨I.nd, by simp, fun a ha c hc q => hnr (by rw [← List.mem_singleton.mp hc, ← q]; exact ha)⟩
    · exact I.nd
  · intro x hx
    rcases (hmem x).mp hx with q | q
    · exact I.sub x q
    · rw [q.1]; exact heK
  · show ∃ more, (if S.come e - 1 = 0 then S.ready ++ [e] else S.ready) = _
    split
    · exact ⟨more ++ [e], by rw [hm, List.append_assoc]⟩
    · exact ⟨more, hm⟩
  · intro x hx
    show upf S.come e (S.come e - 1) x = _
    by_cases q : x = e
    · subst q
      rw [upf_same, if_pos (by simp), c1]
      omega
    · rw [upf_ne _ _ q, I.cm x hx]
      simp [q]
  · intro x hx
    rw [hmem]
    show _ ↔ upf S.come e (S.come e - 1) x = 0
    by_cases q : x = e
    · subst q
      rw [upf_same]
      simp [hnr]
    · rw [upf_ne _ _ q, ← I.rd x hx]
      simp [q]
  · show upf S.rank e _ b = _
    rw [upf_ne _ _ (hn0 b hb0)]
    exact I.rb
  · intro x hx
    show ∃ q, upf S.rank e (some (max ((S.rank e).getD 0) ((S.rank b).getD 0 + 1))) x = some q ∧ _
    by_cases q : x = e
    · subst q
      rw [upf_same, I.rb]
      exact ⟨_, rfl, Int.le_max_right _ _⟩
    · rw [upf_ne _ _ q]
      rcases List.mem_append.mp hx with z | z
      · exact I.rx x z
      · exact absurd (List.mem_singleton.mp z) q
  · intro p hp
    show upf S.rank e _ p = _
    rw [upf_ne _ _ (hn0 p hp)]
    exact I.old p hp
  · intro x q hq
    obtain ⟨q', h1, h2⟩ := I.mon x q hq
    show ∃ q', upf S.rank e (some (max ((S.rank e).getD 0) ((S.rank b).getD 0 + 1))) x = some q' ∧ _
    by_cases z : x = e
    · subst z
      rw [upf_same, h1]
      exact ⟨_, rfl, Int.le_trans h2 (Int.le_max_left _ _)⟩
    · rw [upf_ne _ _ z]
      exact ⟨q', h1, h2⟩

theorem kBegin_ok {K : List Nat} {adj : Nat → List Nat} {i b : Nat} {S : KS} (G : Gr K adj) (I : KInv K adj i S) (hb : S.ready[i]? = some b) : KInv K adj (i + 1) (kBegin adj S b) ∧ ∃ more, (kBegin adj S b).ready = S.ready ++ more := by
  have hbm : b ∈ S.ready := List.mem_of_getElem? hb
  have hbK := I.sub b hbm
  obtain ⟨hi, hbi⟩ := List.getElem?_eq_some_iff.mp hb
  have hbP : ¬ b ∈ S.ready.take i := fun q => by
    obtain ⟨j, hj, e⟩ := List.mem_iff_getElem.mp q
    rw [List.getElem_take] at e
    rw [List.length_take] at hj
    have := (List.getElem_inj I.nd).mp (e.trans hbi.symm)
    omega
  obtain ⟨r, hr⟩ : ∃ r, (kSet S b).rank b = some r := by
    show ∃ r, (if (S.rank b).isSome then S.rank else upf S.rank b (some 0)) b = some r
    split
    · rename_i h
      exact Option.isSome_iff_exists.mp h
    · exact ⟨0, upf_same _ _ _⟩
  have old0 : ∀ p ∈ S.ready, (kSet S b).rank p = (kSet S b).rank p := fun _ _ => rfl
  have mono0 : ∀ x q, S.rank x = some q → (kSet S b).rank x = some q := fun x q hq => by
    show (if (S.rank b).isSome then S.rank else upf S.rank b (some 0)) x = some q
    split
    · exact hq
    · rename_i h
      by_cases z : x = b
      · rw [z] at hq
        rw [hq] at h
        exact absurd rfl h
      · rw [upf_ne _ _ z]
        exact hq
  have start : KIn K adj (S.ready.take i) b r (kSet S b) [] (kSet S b) := by
    refine ⟨I.nd, I.sub, ⟨[], (List.append_nil _).symm⟩, fun x hx => ?_, I.rd, hr, (fun _ h => absurd h (by simp)), fun _ _ => rfl, fun x q hq => ⟨q, hq, Int.le_refl _⟩⟩
    rw [if_neg (by simp)]
    show S.come x = _
    rw [I.cm x hx]
    omega
  obtain ⟨hnd, hsub⟩ := G.each b hbK
  have run : ∀ (rest es : List Nat) (S' : KS), adj b = es ++ rest → KIn K adj (S.ready.take i) b r (kSet S b) es S' → KIn K adj (S.ready.take i) b r (kSet S b) (adj b) (rest.foldl (kEnd b) S') := by
    intro rest
    induction rest with
    | nil =>
      intro es S' e J
      rw [List.append_nil] at e
      rw [e]
      exact J
    | cons x rest ih =>
      intro es S' e J
      rw [List.foldl_cons]
      have hx : x ∈ adj b := by rw [e]; simp
      have hxe : ¬ x ∈ es := fun q => by
        rw [e] at hnd
        exact (List.nodup_append.mp hnd).2.2 x q x List.mem_cons_self rfl
      exact ih (es ++ [x]) _ (by rw [e, List.append_assoc]; rfl) (kEnd_ok hbK hbP hbm hx (hsub x hx) hxe J)
  have J := run (adj b) [] _ rfl start
  obtain ⟨more, hmore⟩ := J.pre
  have hmore : (kBegin adj S b).ready = S.ready ++ more := hmore
  have tk : ∀ n, n ≤ S.ready.length → (kBegin adj S b).ready.take n = S.ready.take n := fun n hn => by
    rw [hmore, List.take_append_of_le_length hn]
  have tk1 : (kBegin adj S b).ready.take (i + 1) = S.ready.take i ++ [b] := by
    rw [tk (i + 1) hi, List.take_add_one, hb]
    rfl
  refine ⟨⟨J.nd, J.sub, fun x hx => ?_, J.rd, ?_⟩, more, hmore⟩
  · rw [tk1]
    have a1 := J.cm x hx
    have a2 := cnt_more (adj := adj) (x := x) G.nd hbK hbP
    show (kBegin adj S b).come x = _
    have a1 : (kBegin adj S b).come x = (cnt K adj (S.ready.take i) x : Nat) - (if x ∈ adj b then 1 else 0) := a1
    omega
  · rw [tk1]
    intro p hp
    rcases List.mem_append.mp hp with z | z
    · obtain ⟨rp, h1, h2⟩ := I.rk p z
      have zr : p ∈ S.ready := List.mem_of_mem_take z
      refine ⟨rp, ?_, fun x hx => ?_⟩
      · show (kBegin adj S b).rank p = _
        have := J.old p zr
        exact this.trans (mono0 p rp h1)
      · obtain ⟨q, h3, h4⟩ := h2 x hx
        obtain ⟨q', h5, h6⟩ := J.mon x q (mono0 x q h3)
        exact ⟨q', h5, by omega⟩
    · rw [List.mem_singleton.mp z]
      exact ⟨r, J.rb, J.rx⟩

theorem kStart_ok {K : List Nat} {adj : Nat → List Nat} (G : Gr K adj) : KInv K adj 0 (kStart K adj) := by
  refine ⟨G.nd.filter _, fun x hx => (List.mem_filter.mp hx).1, fun x hx => ?_, fun x hx => ?_, fun b hb => absurd hb (by simp)⟩
  · rw [List.take_zero]
    exact come_fold G x
  · show x ∈ K.filter _ ↔ _
    rw [List.mem_filter, decide_eq_true_eq]
    exact ⟨fun h => h.2, fun h => ⟨hx, h⟩⟩
theorem kLoop_ok {K : List Nat} {adj : Nat → List Nat} (G : Gr K adj) : ∀ (n i : Nat) (S : KS), KInv K adj i S → K.length ≤ i + n → KInv K adj (kLoop adj n i S).ready.length (kLoop adj n i S)
  | 0, i, S, I, h => by
    have hl : S.ready.length ≤ K.length := nodup_le I.nd I.sub
    refine ⟨I.nd, I.sub, fun x hx => ?_, I.rd, ?_⟩
    · show S.come x = _
      rw [show kLoop adj 0 i S = S from rfl, List.take_length, I.cm x hx, List.take_of_length_le (by omega)]
    · rw [show kLoop adj 0 i S = S from rfl, List.take_length]
      have := I.rk
      rwa [List.take_of_length_le (by omega)] at this
  | n + 1, i, S, I, h => by
    rw [kLoop]
    cases e : S.ready[i]? with
    | none =>
      have hl : S.ready.length ≤ i := List.getElem?_eq_none_iff.mp e
      refine ⟨I.nd, I.sub, fun x hx => ?_, I.rd, ?_⟩
      · show S.come x = _
        rw [List.take_length, I.cm x hx, List.take_of_length_le hl]
      · rw [List.take_length]
        have := I.rk
        rwa [List.take_of_length_le hl] at this
    | some b => exact kLoop_ok G n (i + 1) _ (kBegin_ok G I e).1 (by omega)

/-- what Kahn's way tells -/
structure Told (K : List Nat) (adj : Nat → List Nat) (S : KS) : Prop where
  nd : S.ready.Nodup
  sub : ∀ x ∈ S.ready, x ∈ K
  left : ∀ x ∈ K, ¬ x ∈ S.ready → ∃ b ∈ K, ¬ b ∈ S.ready ∧ x ∈ adj b
  rk : ∀ b ∈ S.ready, ∃ r, S.rank b = some r ∧ ∀ x ∈ adj b, ∃ q, S.rank x = some q ∧ r + 1 ≤ q
theorem kahn_told {K : List Nat} {adj : Nat → List Nat} (G : Gr K adj) : Told K adj (kahn K adj) := by
  have I := kLoop_ok G K.length 0 _ (kStart_ok G) (by omega)
  have I : KInv K adj (kahn K adj).ready.length (kahn K adj) := I
  refine ⟨I.nd, I.sub, fun x hx hn => ?_, fun b hb => ?_⟩
  · have c := I.cm x hx
    rw [List.take_length] at c
    have hne : (kahn K adj).come x ≠ 0 := fun q => hn ((I.rd x hx).mpr q)
    have hpos : 0 < cnt K adj (kahn K adj).ready x := by omega
    unfold cnt at hpos
    obtain ⟨b, hb, h2⟩ := List.countP_pos_iff.mp hpos
    rw [Bool.and_eq_true, decide_eq_true_eq, decide_eq_true_eq] at h2
    exact ⟨b, hb, h2.1, h2.2⟩
  · have := I.rk
    rw [List.take_length] at this
    exact this b hb
/-- a rank that rises: all are told -/
theorem told_all {K : List Nat} {adj : Nat → List Nat} {S : KS} (T : Told K adj S) (ρ : Nat → Nat) (h : ∀ b ∈ K, ∀ e ∈ adj b, ρ b < ρ e) : ∀ x ∈ K, x ∈ S.ready := by
  have key : ∀ n x, ρ x < n → x ∈ K → x ∈ S.ready := by
    intro n
    induction n with
    | zero => intro x hx; omega
    | succ n ih =>
      intro x hx hK
      apply Classical.byContradiction
      intro hn
      obtain ⟨b, hb, h1, h2⟩ := T.left x hK hn
      have := h b hb x h2
      exact h1 (ih b (by omega) hb)
  exact fun x hx => key (ρ x + 1) x (by omega) hx
theorem told_full {K : List Nat} {adj : Nat → List Nat} {S : KS} (G : Gr K adj) (T : Told K adj S) (h : ¬ S.ready.length < K.length) : ∀ x ∈ K, x ∈ S.ready :=
  nodup_full T.nd T.sub G.nd (by omega)
end K52
/-! Pairs of nodes and their steps. -/
namespace K52
def pn (u v m : Nat) : Nat := if u = v then 0 else u * m + v
theorem pn_lt {u v m : Nat} (hu : u < m) (hv : v < m) : pn u v m < m * m := by
  unfold pn
  split
  · exact Nat.mul_pos (by omega) (by omega)
  · have : u * m + m ≤ m * m := by rw [← Nat.succ_mul]; exact Nat.mul_le_mul_right _ hu
    omega
theorem pn_zero {u v m : Nat} (hm : 0 < m) : pn u v m = 0 ↔ u = v := by
  unfold pn
  split
  · simp_all
  · constructor
    · intro h
      have h1 : u * m = 0 := by omega
      rcases Nat.mul_eq_zero.mp h1 with h2 | h2 <;> omega
    · intro h; contradiction
theorem pn_inj {u v u' v' m : Nat} (hv : v < m) (hv' : v' < m) (h : pn u v m = pn u' v' m) (h0 : pn u v m ≠ 0) : u = u' ∧ v = v' := by
  unfold pn at h h0
  split at h0
  · exact absurd rfl h0
  · rename_i h1
    rw [if_neg h1] at h
    split at h
    · omega
    · have e1 : v = v' := by
        have a := congrArg (· % m) h
        simp only [Nat.mul_comm _ m, Nat.mul_add_mod, Nat.mod_eq_of_lt hv, Nat.mod_eq_of_lt hv'] at a
        exact a
      have e2 : u * m = u' * m := by omega
      exact ⟨Nat.eq_of_mul_eq_mul_right (by omega) e2, e1⟩

/-- the words of each sign -/
def wtA (F : List Nat) (n a : Nat) : List Nat := (List.range n).filter fun k => tb F k == a
def wt (F : List Nat) (s : Nat) : List (List Nat) := (List.range s).map fun a => wtA F F.length a
def addKey (K : List Nat) (k : Nat) : List Nat := if k ∈ K then K else K ++ [k]
def keysU (N u : Nat) (K : List Nat) (n : Nat) : List Nat := (List.range n).foldl (fun K v => addKey K (pn u v N)) K
def keysN (N n : Nat) : List Nat := (List.range n).foldl (fun K u => keysU N u K N) [0]
def keysL (N : Nat) : List Nat := keysN N N

abbrev SF := Nat → List (Nat × (Nat × Nat))
def addStep (s N : Nat) (f : SF) (l r : Nat) : SF :=
  if pn (l / s) (r / s) N = 0 ∧ pn (l % N) (r % N) N = 0 then f
  else if (f (pn (l / s) (r / s) N)).any (fun x => x.1 == pn (l % N) (r % N) N) then f
  else upf f (pn (l / s) (r / s) N) (f (pn (l / s) (r / s) N) ++ [(pn (l % N) (r % N) N, (l, r))])
def addR (s N l : Nat) (some : List Nat) (f : SF) : SF := some.foldl (fun f r => addStep s N f l r) f
def addL (s N : Nat) (all some : List Nat) (f : SF) : SF := some.foldl (fun f l => addR s N l all f) f
def stepsW (s N : Nat) (W : List (List Nat)) : SF := W.foldl (fun f some => addL s N some some f) fun _ => []
def stepsF (F : List Nat) (s N : Nat) : SF := stepsW s N (wt F s)

theorem addKey_nd {K : List Nat} {k : Nat} (h : K.Nodup) : (addKey K k).Nodup := by
  unfold addKey
  split
  · exact h
  · rename_i hk
    rw [List.nodup_append]
    exact ⟨h, by simp, fun a ha b hb e => hk (by rw [← List.mem_singleton.mp hb, ← e]; exact ha)⟩
theorem mem_addKey {K : List Nat} {k x : Nat} : x ∈ addKey K k ↔ x ∈ K ∨ x = k := by
  unfold addKey
  split
  · rename_i h
    constructor
    · exact .inl
    · rintro (h1 | h1)
      · exact h1
      · rw [h1]; exact h
  · simp
theorem keysU_ok (N u : Nat) (K : List Nat) (hK : K.Nodup) : ∀ n, (keysU N u K n).Nodup ∧ ∀ x, x ∈ keysU N u K n ↔ x ∈ K ∨ ∃ v, v < n ∧ x = pn u v N
  | 0 => ⟨hK, fun x => by simp [keysU]⟩
  | n + 1 => by
    obtain ⟨h1, h2⟩ := keysU_ok N u K hK n
    have e : keysU N u K (n + 1) = addKey (keysU N u K n) (pn u n N) := by
      unfold keysU
      rw [List.range_succ, List.foldl_append]
      rfl
    rw [e]
    refine ⟨addKey_nd h1, fun x => ?_⟩
    rw [mem_addKey, h2]
    constructor
    · rintro ((h | ⟨v, h3, h4⟩) | h)
      · exact .inl h
      · exact .inr ⟨v, by omega, h4⟩
      · exact .inr ⟨n, by omega, h⟩
    · rintro (h | ⟨v, h3, h4⟩)
      · exact .inl (.inl h)
      · by_cases hv : v = n
        · rw [hv] at h4
          exact .inr h4
        · exact .inl (.inr ⟨v, by omega, h4⟩)
theorem keysN_succ (N n : Nat) : keysN N (n + 1) = keysU N n (keysN N n) N := by
  unfold keysN
  rw [List.range_succ, List.foldl_append]
  rfl
theorem keysU_succ (N u : Nat) (K : List Nat) (n : Nat) : keysU N u K (n + 1) = addKey (keysU N u K n) (pn u n N) := by
  unfold keysU
  rw [List.range_succ, List.foldl_append]
  rfl
theorem keysN_ok (N : Nat) : ∀ n, (keysN N n).Nodup ∧ ∀ x, x ∈ keysN N n ↔ x = 0 ∨ ∃ u v, u < n ∧ v < N ∧ x = pn u v N
  | 0 => ⟨by simp [keysN], fun x => by simp [keysN]⟩
  | n + 1 => by
    obtain ⟨h1, h2⟩ := keysN_ok N n
    obtain ⟨h3, h4⟩ := keysU_ok N n _ h1 N
    rw [keysN_succ]
    refine ⟨h3, fun x => ?_⟩
    rw [h4, h2]
    constructor
    · rintro ((h | ⟨u, v, a, b, c⟩) | ⟨v, b, c⟩)
      · exact .inl h
      · exact .inr ⟨u, v, by omega, b, c⟩
      · exact .inr ⟨n, v, by omega, b, c⟩
    · rintro (h | ⟨u, v, a, b, c⟩)
      · exact .inl (.inl h)
      · by_cases hu : u = n
        · rw [hu] at c
          exact .inr ⟨v, b, c⟩
        · exact .inl (.inr ⟨u, v, by omega, b, c⟩)
theorem keysL_nd (N : Nat) : (keysL N).Nodup := (keysN_ok N N).1
theorem mem_keysL {N x : Nat} : x ∈ keysL N ↔ x = 0 ∨ ∃ u v, u < N ∧ v < N ∧ x = pn u v N := (keysN_ok N N).2 x
theorem keysL_len {N : Nat} (hN : 0 < N) : (keysL N).length ≤ N * N := nodup_lt (keysL_nd N) fun x hx => by
  rcases mem_keysL.mp hx with h | ⟨u, v, h1, h2, h3⟩
  · rw [h]; exact Nat.mul_pos hN hN
  · rw [h3]; exact pn_lt h1 h2
theorem zero_mem_keysL (N : Nat) : 0 ∈ keysL N := mem_keysL.mpr (.inl rfl)
theorem pn_mem_keysL {N u v : Nat} (hu : u < N) (hv : v < N) : pn u v N ∈ keysL N := mem_keysL.mpr (.inr ⟨u, v, hu, hv, rfl⟩)

/-- the pairs of words in the program's order -/
def allP (W : List (List Nat)) : List (Nat × Nat) := W.flatMap fun some => some.flatMap fun l => some.map fun r => (l, r)
theorem stepsW_eq (s N : Nat) (W : List (List Nat)) : stepsW s N W = (allP W).foldl (fun f x => addStep s N f x.1 x.2) fun _ => [] := by
  unfold stepsW allP addL addR
  rw [List.foldl_flatMap]
  congr 1
  funext f some
  rw [List.foldl_flatMap]
  congr 1
  funext f l
  rw [List.foldl_map]
theorem mem_allP {F : List Nat} {s : Nat} (hF : ∀ d ∈ F, d < s) (l r : Nat) : (l, r) ∈ allP (wt F s) ↔ l < F.length ∧ r < F.length ∧ tb F l = tb F r := by
  unfold allP wt wtA
  simp only [List.mem_flatMap, List.mem_map, List.mem_range, Prod.mk.injEq]
  constructor
  · rintro ⟨w, ⟨a, ha, rfl⟩, l', hl, r', hr, rfl, rfl⟩
    simp only [List.mem_filter, List.mem_range, beq_iff_eq] at hl hr
    exact ⟨hl.1, hr.1, hl.2.trans hr.2.symm⟩
  · rintro ⟨h1, h2, h3⟩
    refine ⟨_, ⟨tb F l, ?_, rfl⟩, l, ?_, r, ?_, rfl, rfl⟩
    · apply hF
      unfold tb
      rw [List.getD_eq_getElem?_getD, List.getElem?_eq_getElem h1]
      exact List.getElem_mem _
    · simp [h1]
    · simp [h2, h3]

structure SOk (s N : Nat) (P : List (Nat × Nat)) (f : SF) : Prop where
  nd : ∀ b, ((f b).map (·.1)).Nodup
  each : ∀ b, ∀ x ∈ f b, x.2 ∈ P ∧ pn (x.2.1 / s) (x.2.2 / s) N = b ∧ pn (x.2.1 % N) (x.2.2 % N) N = x.1 ∧ (b ≠ 0 ∨ x.1 ≠ 0)
  all : ∀ x ∈ P, (pn (x.1 / s) (x.2 / s) N ≠ 0 ∨ pn (x.1 % N) (x.2 % N) N ≠ 0) → ∃ y ∈ f (pn (x.1 / s) (x.2 / s) N), y.1 = pn (x.1 % N) (x.2 % N) N
theorem sok_fold (s N : Nat) : ∀ P : List (Nat × Nat), SOk s N P (P.foldl (fun f x => addStep s N f x.1 x.2) fun _ => []) := by
  refine snoc_ind ⟨fun b => by simp, fun b x hx => by simp at hx, fun x hx => by cases hx⟩ fun P x ih => ?_
  rw [List.foldl_append]
  show SOk s N (P ++ [x]) (addStep s N (P.foldl (fun f x => addStep s N f x.1 x.2) fun _ => []) x.1 x.2)
  generalize (P.foldl (fun f x => addStep s N f x.1 x.2) fun _ => []) = f at ih
  have more : ∀ b, ∀ y ∈ f b, y.2 ∈ P ++ [x] ∧ pn (y.2.1 / s) (y.2.2 / s) N = b ∧ pn (y.2.1 % N) (y.2.2 % N) N = y.1 ∧ (b ≠ 0 ∨ y.1 ≠ 0) := fun b y hy => by
    obtain ⟨h1, h2⟩ := ih.each b y hy
    exact ⟨List.mem_append_left _ h1, h2⟩
  unfold addStep
  by_cases h0 : pn (x.1 / s) (x.2 / s) N = 0 ∧ pn (x.1 % N) (x.2 % N) N = 0
  · rw [if_pos h0]
    refine ⟨ih.nd, more, fun y hy hne => ?_⟩
    rcases List.mem_append.mp hy with hy | hy
    · exact ih.all y hy hne
    · rw [List.mem_singleton.mp hy] at hne
      omega
  · rw [if_neg h0]
    by_cases h1 : (f (pn (x.1 / s) (x.2 / s) N)).any (fun y => y.1 == pn (x.1 % N) (x.2 % N) N) = true
    · rw [if_pos h1]
      refine ⟨ih.nd, more, fun y hy hne => ?_⟩
      rcases List.mem_append.mp hy with hy | hy
      · exact ih.all y hy hne
      · rw [List.mem_singleton.mp hy]
        obtain ⟨z, hz, e⟩ := List.any_eq_true.mp h1
        exact ⟨z, hz, by simpa using e⟩
    · rw [if_neg h1]
      have hn : ∀ y ∈ f (pn (x.1 / s) (x.2 / s) N), y.1 ≠ pn (x.1 % N) (x.2 % N) N := fun y hy e => h1 (List.any_eq_true.mpr ⟨y, hy, by simpa using e⟩)
      refine ⟨fun b => ?_, fun b y hy => ?_, fun y hy hne => ?_⟩
      · by_cases hb : b = pn (x.1 / s) (x.2 / s) N
        · subst hb
          rw [upf_same, List.map_append, List.nodup_append]
          refine ⟨ih.nd _, by simp, fun a ha c hc e => ?_⟩
          obtain ⟨y, hy, e2⟩ := List.mem_map.mp ha
          refine hn y hy ?_
          have : c = pn (x.1 % N) (x.2 % N) N := by simpa using hc
          rw [e2, e, this]
        · rw [upf_ne _ _ hb]
          exact ih.nd b
      · by_cases hb : b = pn (x.1 / s) (x.2 / s) N
        · subst hb
          rw [upf_same] at hy
          rcases List.mem_append.mp hy with hy | hy
          · exact more _ y hy
          · rw [List.mem_singleton.mp hy]
            exact ⟨List.mem_append_right _ (List.mem_singleton.mpr rfl), rfl, rfl, by show _ ≠ 0 ∨ _ ≠ 0; omega⟩
        · rw [upf_ne _ _ hb] at hy
          exact more b y hy
      · rcases List.mem_append.mp hy with hy | hy
        · obtain ⟨z, hz, e⟩ := ih.all y hy hne
          by_cases hb : pn (y.1 / s) (y.2 / s) N = pn (x.1 / s) (x.2 / s) N
          · rw [hb] at hz ⊢
            rw [upf_same]
            exact ⟨z, List.mem_append_left _ hz, e⟩
          · rw [upf_ne _ _ hb]
            exact ⟨z, hz, e⟩
        · rw [List.mem_singleton.mp hy, upf_same]
          exact ⟨_, List.mem_append_right _ (List.mem_singleton.mpr rfl), rfl⟩
theorem stepsF_ok (F : List Nat) (s N : Nat) : SOk s N (allP (wt F s)) (stepsF F s N) := by
  unfold stepsF
  rw [stepsW_eq]
  exact sok_fold s N _
end K52
/-! Twins: a way round among pairs gives two rings led to one. -/
namespace K52
def stepTo (some : List Nat) (adj : Nat → List Nat) (e : Nat) : Nat := (some.filter fun b => decide (e ∈ adj b)).headD 0
def roundLoop (nx : Nat → Nat) : Nat → List Nat → Nat → List Nat × Nat
  | 0, way, b => (way, b)
  | n + 1, way, b => if b ∈ way then (way, b) else roundLoop nx n (way ++ [b]) (nx b)
def roundEnd (some : List Nat) (adj : Nat → List Nat) : List Nat × Nat := roundLoop (stepTo some adj) some.length [some.headD 0] (stepTo some adj (some.headD 0))
def roundAbout (some : List Nat) (adj : Nat → List Nat) : List Nat := ((roundEnd some adj).1.drop ((roundEnd some adj).1.idxOf (roundEnd some adj).2)).reverse

/-- each of some has one of some that steps to it -/
structure Back (some : List Nat) (adj : Nat → List Nat) : Prop where
  ne : some ≠ []
  all : ∀ x ∈ some, ∃ b ∈ some, x ∈ adj b
theorem stepTo_ok {some : List Nat} {adj : Nat → List Nat} (B : Back some adj) {x : Nat} (hx : x ∈ some) : stepTo some adj x ∈ some ∧ x ∈ adj (stepTo some adj x) := by
  obtain ⟨b, hb, he⟩ := B.all x hx
  have hm : b ∈ some.filter fun b => decide (x ∈ adj b) := List.mem_filter.mpr ⟨hb, by simpa using he⟩
  unfold stepTo
  cases e : some.filter fun b => decide (x ∈ adj b) with
  | nil => rw [e] at hm; cases hm
  | cons y r =>
    have : y ∈ some.filter fun b => decide (x ∈ adj b) := by rw [e]; exact List.mem_cons_self
    obtain ⟨h1, h2⟩ := List.mem_filter.mp this
    exact ⟨h1, by simpa using h2⟩
structure RInv (some : List Nat) (adj : Nat → List Nat) (way : List Nat) (b : Nat) : Prop where
  ne : way ≠ []
  nd : way.Nodup
  sub : ∀ x ∈ way, x ∈ some
  bs : b ∈ some
  chain : ∀ i (h : i + 1 < way.length), way[i] ∈ adj way[i + 1]
  last : ∀ h : way ≠ [], way.getLast h ∈ adj b
theorem rinv_start {some : List Nat} {adj : Nat → List Nat} (B : Back some adj) : RInv some adj [some.headD 0] (stepTo some adj (some.headD 0)) := by
  have hm : some.headD 0 ∈ some := by
    cases e : some with
    | nil => exact absurd e B.ne
    | cons y r => exact List.mem_cons_self
  obtain ⟨h1, h2⟩ := stepTo_ok B hm
  exact ⟨by simp, by simp, fun x hx => by rw [List.mem_singleton.mp hx]; exact hm, h1, fun i h => by simp at h, fun _ => h2⟩
theorem rinv_step {some : List Nat} {adj : Nat → List Nat} (B : Back some adj) {way : List Nat} {b : Nat} (I : RInv some adj way b) (hb : b ∉ way) : RInv some adj (way ++ [b]) (stepTo some adj b) := by
  obtain ⟨h1, h2⟩ := stepTo_ok B I.bs
  refine ⟨by simp, ?_, fun x hx => ?_, h1, fun i h => ?_, fun _ => by rw [List.getLast_concat]; exact h2⟩
  · rw [List.nodup_append]
    exact ⟨I.nd, by simp, fun a ha c hc e => hb (by rw [← List.mem_singleton.mp hc, ← e]; exact ha)⟩
  · rcases List.mem_append.mp hx with q | q
    · exact I.sub x q
    · rw [List.mem_singleton.mp q]; exact I.bs
  · rw [List.length_append, List.length_singleton] at h
    by_cases hi : i + 1 < way.length
    · have e1 : (way ++ [b])[i] = way[i] := List.getElem_append_left (by omega)
      have e2 : (way ++ [b])[i + 1] = way[i + 1] := List.getElem_append_left hi
      rw [e1, e2]
      exact I.chain i hi
    · have e : i + 1 = way.length := by omega
      have hl := I.last I.ne
      rw [List.getLast_eq_getElem] at hl
      have e1 : (way ++ [b])[i] = way[i]'(by omega) := List.getElem_append_left (by omega)
      have e2 : (way ++ [b])[i + 1] = b := by
        rw [List.getElem_append_right (by omega)]
        simp
      have e3 : way[way.length - 1]'(by omega) = way[i]'(by omega) := by congr 1; omega
      rw [e1, e2, ← e3]
      exact hl
theorem roundLoop_ok {some : List Nat} {adj : Nat → List Nat} (B : Back some adj) : ∀ (n : Nat) (way : List Nat) (b : Nat), RInv some adj way b → some.length < n + way.length + 1 → RInv some adj (roundLoop (stepTo some adj) n way b).1 (roundLoop (stepTo some adj) n way b).2 ∧ (roundLoop (stepTo some adj) n way b).2 ∈ (roundLoop (stepTo some adj) n way b).1
  | 0, way, b, I, h => by
    refine ⟨I, ?_⟩
    show b ∈ way
    apply Classical.byContradiction
    intro hb
    have := nodup_le (rinv_step B I hb).nd (rinv_step B I hb).sub
    rw [List.length_append, List.length_singleton] at this
    omega
  | n + 1, way, b, I, h => by
    rw [roundLoop]
    split
    · rename_i hb
      exact ⟨I, hb⟩
    · rename_i hb
      exact roundLoop_ok B n _ _ (rinv_step B I hb) (by rw [List.length_append, List.length_singleton]; omega)
/-- a way round -/
structure Cyc (K : List Nat) (adj : Nat → List Nat) (r : List Nat) : Prop where
  ne : 0 < r.length
  nd : r.Nodup
  sub : ∀ x ∈ r, x ∈ K
  step : ∀ k (h : k < r.length), r[(k + 1) % r.length]'(Nat.mod_lt _ ne) ∈ adj r[k]
theorem roundAbout_ok {some : List Nat} {adj : Nat → List Nat} (B : Back some adj) : Cyc some adj (roundAbout some adj) := by
  obtain ⟨I, hb⟩ := roundLoop_ok B some.length _ _ (rinv_start B) (by rw [List.length_singleton]; omega)
  have I : RInv some adj (roundEnd some adj).1 (roundEnd some adj).2 := I
  have hb : (roundEnd some adj).2 ∈ (roundEnd some adj).1 := hb
  unfold roundAbout
  generalize (roundEnd some adj).1 = way at I hb
  generalize (roundEnd some adj).2 = b at I hb
  have hix : way.idxOf b < way.length := List.idxOf_lt_length_of_mem hb
  have hgx : way[way.idxOf b] = b := List.getElem_idxOf hix
  generalize way.idxOf b = q at hix hgx
  have hlen : ((way.drop q).reverse).length = way.length - q := by rw [List.length_reverse, List.length_drop]
  refine ⟨by omega, ?_, fun x hx => ?_, fun k hk => ?_⟩
  · exact (List.reverse_perm _).nodup_iff.mpr (I.nd.sublist (List.drop_sublist _ _))
  · exact I.sub x (List.mem_of_mem_drop (List.mem_reverse.mp hx))
  · have at_ : ∀ j (h : j < ((way.drop q).reverse).length), ((way.drop q).reverse)[j] = way[way.length - 1 - j]'(by omega) := fun j h => by
      rw [List.getElem_reverse, List.getElem_drop]
      congr 1
      rw [List.length_drop]
      omega
    rw [at_ k hk, at_ _ (Nat.mod_lt _ (by omega))]
    rw [hlen] at hk
    by_cases hl : k + 1 < way.length - q
    · have e : (k + 1) % ((way.drop q).reverse).length = k + 1 := by rw [hlen]; exact Nat.mod_eq_of_lt hl
      have c := I.chain (way.length - 1 - (k + 1)) (by omega)
      have e1 : way[way.length - 1 - (k + 1) + 1]'(by omega) = way[way.length - 1 - k]'(by omega) := by congr 1; omega
      rw [e1] at c
      have e2 : way[way.length - 1 - (k + 1) % ((way.drop q).reverse).length]'(by omega) = way[way.length - 1 - (k + 1)]'(by omega) := by congr 1; rw [e]
      rw [e2]
      exact c
    · have e0 : k + 1 = way.length - q := by omega
      have e : (k + 1) % ((way.drop q).reverse).length = 0 := by rw [hlen, e0, Nat.mod_self]
      have c := I.last I.ne
      rw [List.getLast_eq_getElem] at c
      have e1 : way[way.length - 1 - k]'(by omega) = b := by rw [← hgx]; congr 1; omega
      have e2 : way[way.length - 1 - (k + 1) % ((way.drop q).reverse).length]'(by omega) = way[way.length - 1]'(by omega) := by congr 1; rw [e]; rfl
      rw [e1, e2]
      exact c

/-! ### words linked -/
def Linked (F : List Nat) (s N : Nat) : (Nat × Nat) → List (Nat × Nat) → (Nat × Nat) → Prop
  | a, [], b => a = b
  | a, w :: t, b => w.1 < F.length ∧ w.2 < F.length ∧ tb F w.1 = tb F w.2 ∧ w.1 / s = a.1 ∧ w.2 / s = a.2 ∧ Linked F s N (w.1 % N, w.2 % N) t b
theorem linked_append {F : List Nat} {s N : Nat} : ∀ {a b c : Nat × Nat} {l m : List (Nat × Nat)}, Linked F s N a l b → Linked F s N b m c → Linked F s N a (l ++ m) c
  | _, _, _, [], _, h, g => by
    have h : _ = _ := h
    subst h
    exact g
  | _, _, _, _ :: _, _, ⟨h1, h2, h3, h4, h5, h6⟩, g => ⟨h1, h2, h3, h4, h5, linked_append h6 g⟩
theorem linked_get {F : List Nat} {s N : Nat} : ∀ {a b : Nat × Nat} {l : List (Nat × Nat)}, Linked F s N a l b →
    (∀ i (h : i < l.length), l[i].1 < F.length ∧ l[i].2 < F.length ∧ tb F l[i].1 = tb F l[i].2) ∧
    (∀ i (h : i + 1 < l.length), l[i + 1].1 / s = l[i].1 % N ∧ l[i + 1].2 / s = l[i].2 % N) ∧
    (∀ h : 0 < l.length, l[0].1 / s = a.1 ∧ l[0].2 / s = a.2) ∧ (∀ h : 0 < l.length, l[l.length - 1].1 % N = b.1 ∧ l[l.length - 1].2 % N = b.2)
  | _, _, [], _ => ⟨fun i h => absurd h (by simp), fun i h => absurd h (by simp), fun h => absurd h (by simp), fun h => absurd h (by simp)⟩
  | a, b, w :: t, ⟨h1, h2, h3, h4, h5, h6⟩ => by
    obtain ⟨g1, g2, g3, g4⟩ := linked_get h6
    refine ⟨fun i h => ?_, fun i h => ?_, fun _ => ⟨h4, h5⟩, fun _ => ?_⟩
    · cases i with
      | zero => exact ⟨h1, h2, h3⟩
      | succ i => exact g1 i (by simpa using h)
    · cases i with
      | zero => exact g3 (by simpa using h)
      | succ i => exact g2 i (by simpa using h)
    · cases t with
      | nil =>
        have h6 : (w.1 % N, w.2 % N) = b := h6
        rw [← h6]
        exact ⟨rfl, rfl⟩
      | cons x t =>
        have := g4 (by simp)
        simpa using this

/-- a ring of words: the windows of its last signs are the words -/
theorem ring_win {s p : Nat} (hs : 0 < s) {L : Nat → Nat} (h : ∀ i, L (i + 1) / s = L i % s ^ (p - 1)) (i : Nat) : ∀ q, 1 ≤ q → q ≤ p → win s (fun j => L (i + j) % s) q = L (i + q - 1) % s ^ q
  | 0, h1, _ => by omega
  | 1, _, _ => by
    show 0 * s + L (i + 0) % s = _
    rw [Nat.zero_mul, Nat.zero_add, Nat.pow_one]
    rfl
  | q + 2, _, h2 => by
    have ih := ring_win hs h i (q + 1) (by omega) (by omega)
    rw [win, ih, show i + (q + 2) - 1 = (i + (q + 1) - 1) + 1 by omega, show i + (q + 1) = (i + (q + 1) - 1) + 1 by omega]
    have e := h (i + (q + 1) - 1)
    have d : s ^ (q + 1) ∣ s ^ (p - 1) := Nat.pow_dvd_pow s (by omega)
    have e2 : L (i + (q + 1) - 1 + 1) / s % s ^ (q + 1) = L (i + (q + 1) - 1) % s ^ (q + 1) := by rw [e, Nat.mod_mod_of_dvd _ d]
    rw [show i + (q + 1) - 1 + 1 - 1 = i + (q + 1) - 1 by omega, ← e2]
    have e3 : s ^ (q + 2) = s * s ^ (q + 1) := by rw [Nat.pow_succ, Nat.mul_comm]
    rw [e3, Nat.mod_mul]
    rw [Nat.mul_comm]
    omega

/-! ### feeding a word -/
def feedW (s N : Nat) : Nat → List Nat → List Nat
  | _, [] => []
  | v, d :: ds => (v * s + d) :: feedW s N ((v * s + d) % N) ds
def feedEnd (s N : Nat) : Nat → List Nat → Nat
  | v, [] => v
  | v, d :: ds => feedEnd s N ((v * s + d) % N) ds
theorem feed_mod {s N : Nat} : ∀ (ds : List Nat) (v : Nat), v < N → feedEnd s N v ds = (v * s ^ ds.length + val s ds) % N
  | [], v, h => by
    show v = _
    rw [List.length_nil, Nat.pow_zero, Nat.mul_one, val_nil, Nat.add_zero, Nat.mod_eq_of_lt h]
  | d :: ds, v, h => by
    have hN : 0 < N := by omega
    rw [feedEnd, feed_mod ds _ (Nat.mod_lt _ hN)]
    have e1 : val s (d :: ds) = d * s ^ ds.length + val s ds := by
      have key : ∀ (ds : List Nat) (a : Nat), ds.foldl (fun a d => a * s + d) a = a * s ^ ds.length + val s ds := by
        intro ds
        induction ds with
        | nil => intro a; simp [val]
        | cons x ds ih =>
          intro a
          rw [List.foldl_cons, ih, List.length_cons, Nat.pow_succ, show val s (x :: ds) = (x :: ds).foldl (fun a d => a * s + d) 0 from rfl, List.foldl_cons, ih]
          rw [Nat.zero_mul, Nat.zero_add, Nat.add_mul, Nat.mul_assoc, Nat.mul_comm s, Nat.add_assoc]
      show (d :: ds).foldl (fun a d => a * s + d) 0 = _
      rw [List.foldl_cons, key, Nat.zero_mul, Nat.zero_add]
    rw [e1, List.length_cons, Nat.pow_succ]
    have e2 : v * (s ^ ds.length * s) + (d * s ^ ds.length + val s ds) = (v * s + d) * s ^ ds.length + val s ds := by
      rw [Nat.add_mul, Nat.mul_assoc, Nat.mul_comm s, Nat.add_assoc]
    rw [e2, Nat.add_mod, Nat.mul_mod, Nat.mod_mod, ← Nat.mul_mod, ← Nat.add_mod]
theorem feed_linked {F : List Nat} {s N : Nat} (hF : F.length = N * s) : ∀ (ds : List Nat) (v : Nat), v < N → (∀ d ∈ ds, d < s) → Linked F s N (v, v) ((feedW s N v ds).map fun e => (e, e)) (feedEnd s N v ds, feedEnd s N v ds)
  | [], v, _, _ => rfl
  | d :: ds, v, hv, hd => by
    have h1 : d < s := hd d List.mem_cons_self
    have hN : 0 < N := by omega
    have h2 : v * s + d < F.length := by
      rw [hF]
      have : v * s + s ≤ N * s := by rw [← Nat.succ_mul]; exact Nat.mul_le_mul_right _ hv
      omega
    have h3 : (v * s + d) / s = v := by rw [Nat.mul_comm, Nat.mul_add_div (by omega), Nat.div_eq_of_lt h1, Nat.add_zero]
    exact ⟨h2, h2, rfl, h3, h3, feed_linked hF ds _ (Nat.mod_lt _ hN) fun x hx => hd x (List.mem_cons_of_mem _ hx)⟩
theorem feed_signs {s N : Nat} : ∀ (ds : List Nat) (v : Nat), (∀ d ∈ ds, d < s) → (feedW s N v ds).map (· % s) = ds
  | [], _, _ => rfl
  | d :: ds, v, h => by
    rw [feedW, List.map_cons, feed_signs ds _ fun x hx => h x (List.mem_cons_of_mem _ hx), Nat.mul_comm, Nat.mul_add_mod, Nat.mod_eq_of_lt (h d List.mem_cons_self)]
theorem feed_len {s N : Nat} : ∀ (ds : List Nat) (v : Nat), (feedW s N v ds).length = ds.length
  | [], _ => rfl
  | d :: ds, v => by rw [feedW, List.length_cons, feed_len ds, List.length_cons]
end K52
/-! The two rings of a way round. -/
namespace K52
def look (f : SF) (b e : Nat) : Nat × Nat := (((f b).find? fun x => x.1 == e).map (·.2)).getD (0, 0)
def fedL (s long b l : Nat) : List Nat := if b = 0 then wordN s long (l / s) else []
def lookK (f : SF) (way : List Nat) (k : Nat) : Nat × Nat := look f (way.getD k 0) (way.getD ((k + 1) % way.length) 0)
def tw1 (s long : Nat) (f : SF) (way : List Nat) (n : Nat) : List Nat := (List.range n).flatMap fun k => fedL s long (way.getD k 0) (lookK f way k).1 ++ [(lookK f way k).1 % s]
def tw2 (s long : Nat) (f : SF) (way : List Nat) (n : Nat) : List Nat := (List.range n).flatMap fun k => fedL s long (way.getD k 0) (lookK f way k).1 ++ [(lookK f way k).2 % s]
theorem look_mem {f : SF} {b e : Nat} (h : e ∈ (f b).map (·.1)) : (e, look f b e) ∈ f b := by
  obtain ⟨x, hx, rfl⟩ := List.mem_map.mp h
  unfold look
  cases q : (f b).find? fun y => y.1 == x.1 with
  | none =>
    have := List.find?_eq_none.mp q x hx
    simp at this
  | some y =>
    have h1 := List.mem_of_find?_eq_some q
    have h2 := List.find?_some q
    have h2 : y.1 = x.1 := by simpa using h2
    show (x.1, y.2) ∈ f b
    rw [← h2]
    exact h1
section
variable {F : List Nat} {s p N : Nat} {K way : List Nat}
theorem look_ok (hF : ∀ d ∈ F, d < s) (C : Cyc K (fun b => (stepsF F s N b).map (·.1)) way) (k : Nat) (hk : k < way.length) :
    (lookK (stepsF F s N) way k).1 < F.length ∧ (lookK (stepsF F s N) way k).2 < F.length ∧ tb F (lookK (stepsF F s N) way k).1 = tb F (lookK (stepsF F s N) way k).2 ∧
    pn ((lookK (stepsF F s N) way k).1 / s) ((lookK (stepsF F s N) way k).2 / s) N = way.getD k 0 ∧ pn ((lookK (stepsF F s N) way k).1 % N) ((lookK (stepsF F s N) way k).2 % N) N = way.getD ((k + 1) % way.length) 0 ∧
    (way.getD k 0 ≠ 0 ∨ way.getD ((k + 1) % way.length) 0 ≠ 0) := by
  have S := stepsF_ok F s N
  have st := C.step k hk
  have e1 : way.getD k 0 = way[k] := by rw [List.getD_eq_getElem?_getD, List.getElem?_eq_getElem hk]; rfl
  have e2 : way.getD ((k + 1) % way.length) 0 = way[(k + 1) % way.length]'(Nat.mod_lt _ C.ne) := by rw [List.getD_eq_getElem?_getD, List.getElem?_eq_getElem (Nat.mod_lt _ C.ne)]; rfl
  have hm := look_mem st
  obtain ⟨h1, h2, h3, h4⟩ := S.each _ _ hm
  obtain ⟨h5, h6, h7⟩ := (mem_allP hF _ _).mp h1
  unfold lookK
  rw [e1, e2]
  exact ⟨h5, h6, h7, h2, h3, h4⟩
/-- the ends of the step k -/
def eK (f : SF) (N : Nat) (way : List Nat) (k : Nat) : Nat × Nat := ((lookK f way k).1 % N, (lookK f way k).2 % N)
def aK (f : SF) (N : Nat) (way : List Nat) (k : Nat) : Nat × Nat := eK f N way ((k + way.length - 1) % way.length)
def elK (f : SF) (s N long : Nat) (way : List Nat) (k : Nat) : List (Nat × Nat) :=
  (if way.getD k 0 = 0 then (feedW s N (aK f N way k).1 (wordN s long ((lookK f way k).1 / s))).map (fun e => (e, e)) else []) ++ [lookK f way k]
theorem aK_succ {f : SF} {k : Nat} (hk : k < way.length) : aK f N way (k + 1) = eK f N way k := by
  unfold aK
  rw [show k + 1 + way.length - 1 = k + way.length by omega, Nat.add_mod_right, Nat.mod_eq_of_lt hk]
theorem piece_linked (hs : 2 ≤ s) (hp : 2 ≤ p) (hN : N = s ^ (p - 1)) (hl : F.length = N * s) (hF : ∀ d ∈ F, d < s) (C : Cyc K (fun b => (stepsF F s N b).map (·.1)) way) (k : Nat) (hk : k < way.length) :
    Linked F s N (aK (stepsF F s N) N way k) (elK (stepsF F s N) s N (p - 1) way k) (aK (stepsF F s N) N way (k + 1)) := by
  have hN0 : 0 < N := by rw [hN]; exact Nat.pow_pos (by omega)
  obtain ⟨h1, h2, h3, h4, _, _⟩ := look_ok hF C k hk
  have hk' : (k + way.length - 1) % way.length < way.length := Nat.mod_lt _ C.ne
  obtain ⟨_, _, _, _, g5, _⟩ := look_ok hF C _ hk'
  have en : ((k + way.length - 1) % way.length + 1) % way.length = k := by
    rw [Nat.mod_add_mod, show k + way.length - 1 + 1 = k + way.length by omega, Nat.add_mod_right, Nat.mod_eq_of_lt hk]
  rw [en] at g5
  have g5 : pn (aK (stepsF F s N) N way k).1 (aK (stepsF F s N) N way k).2 N = way.getD k 0 := g5
  have lA : (aK (stepsF F s N) N way k).1 < N ∧ (aK (stepsF F s N) N way k).2 < N := ⟨Nat.mod_lt _ hN0, Nat.mod_lt _ hN0⟩
  have lL : (lookK (stepsF F s N) way k).1 / s < N := (Nat.div_lt_iff_lt_mul (by omega)).mpr (by rw [← hl]; exact h1)
  have lR : (lookK (stepsF F s N) way k).2 / s < N := (Nat.div_lt_iff_lt_mul (by omega)).mpr (by rw [← hl]; exact h2)
  rw [aK_succ hk]
  unfold elK
  by_cases h0 : way.getD k 0 = 0
  · rw [if_pos h0]
    rw [h0] at h4 g5
    have e1 := (pn_zero hN0).mp h4
    have e2 := (pn_zero hN0).mp g5
    have eA : aK (stepsF F s N) N way k = ((aK (stepsF F s N) N way k).1, (aK (stepsF F s N) N way k).1) := by
      rw [Prod.ext_iff]
      exact ⟨rfl, e2.symm⟩
    have fl := feed_linked (F := F) (s := s) (N := N) hl (wordN s (p - 1) ((lookK (stepsF F s N) way k).1 / s)) _ lA.1 (wordN_lt s (by omega) _ _)
    rw [← eA] at fl
    refine linked_append fl ?_
    have fe : feedEnd s N (aK (stepsF F s N) N way k).1 (wordN s (p - 1) ((lookK (stepsF F s N) way k).1 / s)) = (lookK (stepsF F s N) way k).1 / s := by
      rw [feed_mod _ _ lA.1, wordN_len, val_wordN s (by omega), ← hN, Nat.mod_eq_of_lt lL, Nat.mul_comm, Nat.mul_add_mod, Nat.mod_eq_of_lt lL]
    rw [fe]
    exact ⟨h1, h2, h3, rfl, e1.symm, rfl⟩
  · rw [if_neg h0, List.nil_append]
    obtain ⟨i1, i2⟩ := pn_inj lR lA.2 (h4.trans g5.symm) (by rw [h4]; exact h0)
    exact ⟨h1, h2, h3, i1, i2, rfl⟩
theorem all_linked (hs : 2 ≤ s) (hp : 2 ≤ p) (hN : N = s ^ (p - 1)) (hl : F.length = N * s) (hF : ∀ d ∈ F, d < s) (C : Cyc K (fun b => (stepsF F s N b).map (·.1)) way) : ∀ n, n ≤ way.length →
    Linked F s N (aK (stepsF F s N) N way 0) ((List.range n).flatMap (elK (stepsF F s N) s N (p - 1) way)) (aK (stepsF F s N) N way n)
  | 0, _ => rfl
  | n + 1, h => by
    rw [List.range_succ, List.flatMap_append]
    refine linked_append (all_linked hs hp hN hl hF C n (by omega)) ?_
    rw [List.flatMap_cons, List.flatMap_nil, List.append_nil]
    exact piece_linked hs hp hN hl hF C n h
theorem el_signs1 (hs : 2 ≤ s) (f : SF) (long k : Nat) : (elK f s N long way k).map (fun w => w.1 % s) = fedL s long (way.getD k 0) (lookK f way k).1 ++ [(lookK f way k).1 % s] := by
  unfold elK fedL
  rw [List.map_append]
  split
  · rw [List.map_map]
    congr 1
    have := feed_signs (s := s) (N := N) (wordN s long ((lookK f way k).1 / s)) (aK f N way k).1 (wordN_lt s (by omega) _ _)
    rw [← this]
    congr 1
    rw [this]
  · rfl
theorem el_signs2 (hs : 2 ≤ s) (f : SF) (long k : Nat) : (elK f s N long way k).map (fun w => w.2 % s) = fedL s long (way.getD k 0) (lookK f way k).1 ++ [(lookK f way k).2 % s] := by
  unfold elK fedL
  rw [List.map_append]
  split
  · rw [List.map_map]
    congr 1
    have := feed_signs (s := s) (N := N) (wordN s long ((lookK f way k).1 / s)) (aK f N way k).1 (wordN_lt s (by omega) _ _)
    rw [← this]
    congr 1
    rw [this]
  · rfl
theorem tw1_eq (hs : 2 ≤ s) (f : SF) (long n : Nat) : ((List.range n).flatMap (elK f s N long way)).map (fun w => w.1 % s) = tw1 s long f way n := by
  unfold tw1
  rw [List.map_flatMap]
  congr 1
  funext k
  exact el_signs1 hs f long k
theorem tw2_eq (hs : 2 ≤ s) (f : SF) (long n : Nat) : ((List.range n).flatMap (elK f s N long way)).map (fun w => w.2 % s) = tw2 s long f way n := by
  unfold tw2
  rw [List.map_flatMap]
  congr 1
  funext k
  exact el_signs2 hs f long k
theorem tw_len (f : SF) (long : Nat) : ∀ n, n ≤ way.length → (tw1 s long f way n).length = n + long * (way.take n).count 0
  | 0, _ => by simp [tw1]
  | n + 1, h => by
    have e : tw1 s long f way (n + 1) = tw1 s long f way n ++ (fedL s long (way.getD n 0) (lookK f way n).1 ++ [(lookK f way n).1 % s]) := by
      unfold tw1
      rw [List.range_succ, List.flatMap_append, List.flatMap_cons, List.flatMap_nil, List.append_nil]
    have e2 : way.take (n + 1) = way.take n ++ [way.getD n 0] := by
      rw [List.take_add_one, List.getElem?_eq_getElem (by omega), List.getD_eq_getElem?_getD, List.getElem?_eq_getElem (by omega)]
      rfl
    rw [e, e2, List.length_append, tw_len f long n (by omega), List.count_append, List.length_append]
    unfold fedL
    by_cases h0 : way.getD n 0 = 0
    · rw [if_pos h0, wordN_len, h0]
      simp [Nat.mul_add]
      omega
    · rw [if_neg h0, List.count_singleton, if_neg (by simpa using h0)]
      simp
      omega
theorem count0_le {l : List Nat} (h : l.Nodup) : l.count 0 ≤ 1 := List.nodup_iff_count.mp h 0
/-- THE TWINS -/
theorem twins_ok (hs : 2 ≤ s) (hp : 2 ≤ p) (hN : N = s ^ (p - 1)) (hl : F.length = N * s) (hF : ∀ d ∈ F, d < s) (C : Cyc K (fun b => (stepsF F s N b).map (·.1)) way) :
    (tw1 s (p - 1) (stepsF F s N) way way.length).length = (tw2 s (p - 1) (stepsF F s N) way way.length).length ∧ 0 < (tw1 s (p - 1) (stepsF F s N) way way.length).length ∧
    (tw1 s (p - 1) (stepsF F s N) way way.length).length ≤ way.length + (p - 1) ∧ (∀ d ∈ tw1 s (p - 1) (stepsF F s N) way way.length, d < s) ∧ (∀ d ∈ tw2 s (p - 1) (stepsF F s N) way way.length, d < s) ∧
    tw1 s (p - 1) (stepsF F s N) way way.length ≠ tw2 s (p - 1) (stepsF F s N) way way.length ∧
    ∀ i, tb F (win s (fun j => (tw1 s (p - 1) (stepsF F s N) way way.length).getD ((i + j) % (tw1 s (p - 1) (stepsF F s N) way way.length).length) 0) p) =
      tb F (win s (fun j => (tw2 s (p - 1) (stepsF F s N) way way.length).getD ((i + j) % (tw2 s (p - 1) (stepsF F s N) way way.length).length) 0) p) := by
  have lk := all_linked hs hp hN hl hF C way.length (Nat.le_refl _)
  have t1 := tw1_eq (way := way) (N := N) hs (stepsF F s N) (p - 1) way.length
  have t2 := tw2_eq (way := way) (N := N) hs (stepsF F s N) (p - 1) way.length
  have tl := tw_len (s := s) (way := way) (stepsF F s N) (p - 1) way.length (Nat.le_refl _)
  have c0 := count0_le C.nd
  have hm := C.ne
  have closed : aK (stepsF F s N) N way way.length = aK (stepsF F s N) N way 0 := by
    unfold aK
    congr 1
    rw [show way.length + way.length - 1 = (way.length - 1) + way.length by omega, Nat.add_mod_right, Nat.zero_add]
  rw [closed] at lk
  have some_ne : ∃ w ∈ (List.range way.length).flatMap (elK (stepsF F s N) s N (p - 1) way), w.1 ≠ w.2 := by
    refine ⟨lookK (stepsF F s N) way 0, List.mem_flatMap.mpr ⟨0, List.mem_range.mpr hm, by unfold elK; simp⟩, fun e => ?_⟩
    obtain ⟨_, _, _, h4, h5, h6⟩ := look_ok hF C 0 hm
    rw [← h4, ← h5, e] at h6
    have hN0 : 0 < N := by rw [hN]; exact Nat.pow_pos (by omega)
    rcases h6 with h | h <;> exact h ((pn_zero hN0).mpr rfl)
  generalize hE : (List.range way.length).flatMap (elK (stepsF F s N) s N (p - 1) way) = EL at lk t1 t2 some_ne
  rw [← t1] at tl ⊢
  rw [← t2]
  rw [List.take_length] at tl
  obtain ⟨g1, g2, g3, g4⟩ := linked_get lk
  have hn : 0 < EL.length := by rw [List.length_map] at tl; omega
  have hb : (p - 1) * way.count 0 ≤ (p - 1) * 1 := Nat.mul_le_mul_left _ c0
  -- the periodic rows of words
  let P1 : Nat → Nat := fun i => (EL.getD (i % EL.length) (0, 0)).1
  let P2 : Nat → Nat := fun i => (EL.getD (i % EL.length) (0, 0)).2
  have at_ : ∀ i (h : i < EL.length), EL.getD i (0, 0) = EL[i] := fun i h => by rw [List.getD_eq_getElem?_getD, List.getElem?_eq_getElem h]; rfl
  have step : ∀ i, P1 (i + 1) / s = P1 i % N ∧ P2 (i + 1) / s = P2 i % N := by
    intro i
    have hi : i % EL.length < EL.length := Nat.mod_lt _ hn
    show (EL.getD ((i + 1) % EL.length) (0, 0)).1 / s = (EL.getD (i % EL.length) (0, 0)).1 % N ∧ (EL.getD ((i + 1) % EL.length) (0, 0)).2 / s = (EL.getD (i % EL.length) (0, 0)).2 % N
    by_cases hw : i % EL.length + 1 < EL.length
    · have e : (i + 1) % EL.length = i % EL.length + 1 := by rw [Nat.add_mod, Nat.mod_eq_of_lt (show 1 < EL.length by omega), Nat.mod_eq_of_lt hw]
      rw [e, at_ _ hw, at_ _ hi]
      exact g2 _ hw
    · have e1 : i % EL.length = EL.length - 1 := by omega
      have e : (i + 1) % EL.length = 0 := by
        have := Nat.div_add_mod i EL.length
        rw [e1] at this
        have e3 : i + 1 = EL.length * (i / EL.length + 1) := by rw [Nat.mul_add, Nat.mul_one]; omega
        rw [e3, Nat.mul_mod_right]
      rw [e, e1, at_ 0 hn, at_ _ (by omega)]
      obtain ⟨a1, a2⟩ := g3 hn
      obtain ⟨a3, a4⟩ := g4 hn
      exact ⟨a1.trans a3.symm, a2.trans a4.symm⟩
  have lt_ : ∀ i, P1 i < F.length ∧ P2 i < F.length ∧ tb F (P1 i) = tb F (P2 i) := fun i => by
    show (EL.getD (i % EL.length) (0, 0)).1 < _ ∧ (EL.getD (i % EL.length) (0, 0)).2 < _ ∧ tb F (EL.getD (i % EL.length) (0, 0)).1 = tb F (EL.getD (i % EL.length) (0, 0)).2
    rw [at_ _ (Nat.mod_lt _ hn)]
    exact g1 _ _
  have hFl : F.length = s ^ p := by
    rw [hl, hN, ← Nat.pow_succ]
    congr 1
    omega
  have w1 : ∀ i, win s (fun j => P1 (i + j) % s) p = P1 (i + p - 1) := fun i => by
    rw [ring_win (by omega) (fun i => by rw [← hN]; exact (step i).1) i p (by omega) (Nat.le_refl _), Nat.mod_eq_of_lt (by rw [← hFl]; exact (lt_ _).1)]
  have w2 : ∀ i, win s (fun j => P2 (i + j) % s) p = P2 (i + p - 1) := fun i => by
    rw [ring_win (by omega) (fun i => by rw [← hN]; exact (step i).2) i p (by omega) (Nat.le_refl _), Nat.mod_eq_of_lt (by rw [← hFl]; exact (lt_ _).2.1)]
  have r1 : ∀ i, (EL.map fun w => w.1 % s).getD (i % (EL.map fun w => w.1 % s).length) 0 = P1 i % s := fun i => by
    rw [List.length_map, List.getD_eq_getElem?_getD, List.getElem?_map, List.getElem?_eq_getElem (Nat.mod_lt _ hn)]
    show (EL[i % EL.length]'(Nat.mod_lt _ hn)).1 % s = (EL.getD (i % EL.length) (0, 0)).1 % s
    rw [at_ _ (Nat.mod_lt _ hn)]
  have r2 : ∀ i, (EL.map fun w => w.2 % s).getD (i % (EL.map fun w => w.2 % s).length) 0 = P2 i % s := fun i => by
    rw [List.length_map, List.getD_eq_getElem?_getD, List.getElem?_map, List.getElem?_eq_getElem (Nat.mod_lt _ hn)]
    show (EL[i % EL.length]'(Nat.mod_lt _ hn)).2 % s = (EL.getD (i % EL.length) (0, 0)).2 % s
    rw [at_ _ (Nat.mod_lt _ hn)]
  have sg : ∀ g : Nat × Nat → Nat, ∀ d ∈ EL.map fun w => g w % s, d < s := fun g d hd => by
    obtain ⟨w, _, rfl⟩ := List.mem_map.mp hd
    exact Nat.mod_lt _ (by omega)
  refine ⟨by rw [List.length_map, List.length_map], by rw [List.length_map]; exact hn, by omega, sg (·.1), sg (·.2), fun e => ?_, fun i => ?_⟩
  · obtain ⟨w, hw, hne⟩ := some_ne
    obtain ⟨j, hj, rfl⟩ := List.mem_iff_getElem.mp hw
    apply hne
    have same : ∀ i, P1 i % s = P2 i % s := fun i => by rw [← r1, ← r2, e]
    have eq : ∀ i, P1 (i + p - 1) = P2 (i + p - 1) := fun i => by
      rw [← w1, ← w2]
      exact win_congr s p fun j _ => same _
    -- j is (some i) + p - 1 around
    have e3 : (j + EL.length * p - (p - 1)) + p - 1 = j + EL.length * p := by
      have : p ≤ EL.length * p := by
        have := Nat.mul_le_mul_right p hn
        omega
      omega
    have q := eq (j + EL.length * p - (p - 1))
    rw [e3] at q
    have e4 : (j + EL.length * p) % EL.length = j := by rw [Nat.add_mul_mod_self_left, Nat.mod_eq_of_lt hj]
    have q : (EL.getD ((j + EL.length * p) % EL.length) (0, 0)).1 = (EL.getD ((j + EL.length * p) % EL.length) (0, 0)).2 := q
    rw [e4, at_ _ hj] at q
    exact q
  · have a1 : win s (fun j => (EL.map fun w => w.1 % s).getD ((i + j) % (EL.map fun w => w.1 % s).length) 0) p = P1 (i + p - 1) := by
      rw [← w1]
      exact win_congr s p fun j _ => r1 _
    have a2 : win s (fun j => (EL.map fun w => w.2 % s).getD ((i + j) % (EL.map fun w => w.2 % s).length) 0) p = P2 (i + p - 1) := by
      rw [← w2]
      exact win_congr s p fun j _ => r2 _
    rw [a1, a2]
    exact (lt_ _).2.2
end
end K52
/-! The law's families, told in naturals. -/
namespace K52
def tracksF (s x10 h t : Nat) : Nat :=
  let share := if s = 8 ∧ x10 % 2 = 1 then 4 else if s = 9 ∨ (s = 6 ∧ x10 % 2 = 1) then 3 else 2
  h / share * share + t % share
def marksF (s x10 h t : Nat) : Nat := if h = s - 1 ∨ t ≠ s - 1 then h else (h + 1 + x10 % (s - 2)) % (s - 1)
def sumsF (s x10 x11 x12 x13 h t : Nat) : Nat :=
  if s = 9 then ((1 + x10 % 2 + x11 % 3 * 3) * h + x12 % 3 * 3 * t + x13) % 9
  else ((1 + x10 % 4 * 2) * h + x12 % (s / 2) * 2 * t + x13) % s
def threeF (h t : Nat) : Nat := (h / 4 + t / 2) % 2 * 4 + (h / 2 + t) % 2 * 2 + h % 2
def downF (s h t : Nat) : Nat := if h < 2 then (h + (if t = 3 then 1 else 0)) % 2 else if h < s - 1 ∧ t = s - 1 then 2 + (h - 1) % (s - 3) else h
def flipF (x10 x11 : Nat) (w : List Nat) : Nat :=
  (w.getD (1 + x10 % 2) 0 + (if w.take (1 + x10 % 2) ++ w.drop (1 + x10 % 2 + 1) = [[0, 1, 0], [1, 0, 1]].getD (x11 % 2) [] then 1 else 0)) % 2
def hereF (x14 : Nat) (w : List Nat) : Nat := if x14 % 2 = 1 then w.getLastD 0 else w.headD 0
def thereF (x14 : Nat) (w : List Nat) : Nat := if x14 % 2 = 1 then w.headD 0 else w.getLastD 0
def toldF (kind s x10 x11 x12 x13 x14 : Nat) (w : List Nat) : Nat :=
  if kind = 3 then flipF x10 x11 w
  else if kind = 1 then tracksF s x10 (hereF x14 w) (thereF x14 w)
  else if kind = 2 then marksF s x10 (hereF x14 w) (thereF x14 w)
  else if kind = 4 then sumsF s x10 x11 x12 x13 (hereF x14 w) (thereF x14 w)
  else if kind = 5 then threeF (hereF x14 w) (thereF x14 w)
  else if kind = 6 then downF s (hereF x14 w) (thereF x14 w)
  else hereF x14 w
end K52
/-! The law's families: their sizes, told signs in reach. -/
namespace K52
def famL : List (Nat × Nat × Nat) := [(0,2,1),(0,3,1),(0,4,1),(0,5,1),(0,6,1),(0,7,1),(0,8,1),(0,9,1),(1,4,2),(1,6,2),(1,8,2),(1,9,2),(2,3,2),(2,4,2),(2,5,2),(2,6,2),(2,7,2),(3,2,4),(4,4,2),(4,8,2),(4,9,2),(5,8,2),(6,5,2),(6,6,2),(6,7,2)]
def Fam (kind s m : Nat) : Prop := (kind, s, m) ∈ famL
def famB (kind s m : Nat) : Bool := decide (2 ≤ s) && decide (s ≤ 9) && decide (1 ≤ m) && decide (m ≤ 4) && decide (s ^ m ≤ 81) && decide (kind = 3 → s = 2 ∧ m = 4) && decide (kind = 2 → 3 ≤ s) && decide (kind = 6 → 4 ≤ s) && decide (kind = 1 → s = 4 ∨ s = 6 ∨ s = 8 ∨ s = 9) && decide (kind = 5 → s = 8) && decide (kind ≤ 6) && decide (s ^ (m - 1) ≤ 9) && decide (m ≤ [4, 3, 2, 2, 2, 2, 2, 2].getD (s - 2) 0)
theorem fam_all : ∀ q ∈ famL, famB q.1 q.2.1 q.2.2 = true := by decide +kernel
structure FamOk (kind s m : Nat) : Prop where
  s2 : 2 ≤ s
  s9 : s ≤ 9
  m1 : 1 ≤ m
  m4 : m ≤ 4
  p81 : s ^ m ≤ 81
  c3 : kind = 3 → s = 2 ∧ m = 4
  c2 : kind = 2 → 3 ≤ s
  c6 : kind = 6 → 4 ≤ s
  c1 : kind = 1 → s = 4 ∨ s = 6 ∨ s = 8 ∨ s = 9
  c5 : kind = 5 → s = 8
  k6 : kind ≤ 6
  p9 : s ^ (m - 1) ≤ 9
  mx : m ≤ [4, 3, 2, 2, 2, 2, 2, 2].getD (s - 2) 0
theorem Fam.ok {kind s m : Nat} (h : Fam kind s m) : FamOk kind s m := by
  have z := fam_all _ h
  unfold famB at z
  simp only [Bool.and_eq_true, decide_eq_true_eq] at z
  obtain ⟨⟨⟨⟨⟨⟨⟨⟨⟨⟨⟨⟨h1, h2⟩, h3⟩, h4⟩, h5⟩, h6⟩, h7⟩, h8⟩, h9⟩, h10⟩, h11⟩, h12⟩, h13⟩ := z
  exact ⟨h1, h2, h3, h4, h5, h6, h7, h8, h9, h10, h11, h12, h13⟩
theorem headD_lt {w : List Nat} {s : Nat} (hs : 0 < s) (h : ∀ d ∈ w, d < s) : w.headD 0 < s := by
  cases w with
  | nil => exact hs
  | cons a l => exact h a List.mem_cons_self
theorem getLastD_lt {w : List Nat} {s : Nat} (hs : 0 < s) (h : ∀ d ∈ w, d < s) : w.getLastD 0 < s := by
  rw [List.getLastD_eq_getLast?]
  cases e : w.getLast? with
  | none => exact hs
  | some a => exact h a (List.mem_of_getLast? e)
theorem hereF_lt {w : List Nat} {s x : Nat} (hs : 0 < s) (h : ∀ d ∈ w, d < s) : hereF x w < s := by
  unfold hereF
  split
  · exact getLastD_lt hs h
  · exact headD_lt hs h
theorem thereF_lt {w : List Nat} {s x : Nat} (hs : 0 < s) (h : ∀ d ∈ w, d < s) : thereF x w < s := by
  unfold thereF
  split
  · exact headD_lt hs h
  · exact getLastD_lt hs h
theorem tracks_mod (s x h t : Nat) : tracksF s x h t = tracksF s (x % 2) h t := by
  unfold tracksF
  rw [Nat.mod_mod]
theorem tracks_fin : ∀ s ∈ [4, 6, 8, 9], ∀ x, x < 2 → ∀ h, h < s → ∀ t, t < s → tracksF s x h t < s := by decide +kernel
theorem toldF_lt {kind s m x10 x11 x12 x13 x14 : Nat} (f : FamOk kind s m) {w : List Nat} (hw : ∀ d ∈ w, d < s) : toldF kind s x10 x11 x12 x13 x14 w < s := by
  have hs : 0 < s := by have := f.s2; omega
  have hh := hereF_lt (x := x14) hs hw
  have ht := thereF_lt (x := x14) hs hw
  unfold toldF
  split
  · rename_i h
    unfold flipF
    rw [(f.c3 h).1]
    exact Nat.mod_lt _ (by decide)
  split
  · rename_i _ h
    rw [tracks_mod]
    refine tracks_fin s ?_ _ (Nat.mod_lt _ (by decide)) _ hh _ ht
    rcases f.c1 h with rfl | rfl | rfl | rfl <;> decide
  split
  · rename_i _ _ h
    have := f.c2 h
    unfold marksF
    split
    · exact hh
    · have := Nat.mod_lt (hereF x14 w + 1 + x10 % (s - 2)) (show 0 < s - 1 by omega)
      omega
  split
  · unfold sumsF
    split
    · rename_i e
      rw [e]
      exact Nat.mod_lt _ (by decide)
    · exact Nat.mod_lt _ hs
  split
  · rename_i h
    rw [f.c5 h]
    unfold threeF
    omega
  split
  · rename_i h
    have := f.c6 h
    unfold downF
    split
    · have := Nat.mod_lt (hereF x14 w + (if thereF x14 w = 3 then 1 else 0)) (show 0 < 2 by decide)
      omega
    split
    · have := Nat.mod_lt (hereF x14 w - 1) (show 0 < s - 3 by omega)
      omega
    · exact hh
  · exact hh
def coreT (kind s m x10 x11 x12 x13 x14 : Nat) (names : List Nat) : List Nat := (List.range (s ^ m)).map fun k => tb names (toldF kind s x10 x11 x12 x13 x14 (wordN s m k))
theorem coreT_len (kind s m x10 x11 x12 x13 x14 : Nat) (names : List Nat) : (coreT kind s m x10 x11 x12 x13 x14 names).length = s ^ m := by
  unfold coreT
  rw [List.length_map, List.length_range]
theorem coreT_lt {kind s m x10 x11 x12 x13 x14 : Nat} {names : List Nat} (f : FamOk kind s m) (hp : names.Perm (List.range s)) : ∀ d ∈ coreT kind s m x10 x11 x12 x13 x14 names, d < s := by
  intro d hd
  unfold coreT at hd
  obtain ⟨k, _, rfl⟩ := List.mem_map.mp hd
  have hs : 0 < s := by have := f.s2; omega
  refine tb_lt hs (fun x hx => ?_) _
  exact List.mem_range.mp (hp.mem_iff.mp hx)
end K52
/-! Tables with the same pattern; ranks that rise. -/
namespace K52
def EqT (T T' : List Nat) : Prop := T.length = T'.length ∧ ∀ k k', k < T.length → k' < T.length → (tb T k = tb T k' ↔ tb T' k = tb T' k')
theorem any_congr {l : List Nat} {f g : Nat → Bool} (h : ∀ k ∈ l, f k = g k) : l.any f = l.any g := by
  induction l with
  | nil => rfl
  | cons a l ih => rw [List.any_cons, List.any_cons, h a List.mem_cons_self, ih fun k hk => h k (List.mem_cons_of_mem _ hk)]
theorem EqT.cnt {T T' : List Nat} (e : EqT T T') (s w : Nat) : lawCnt T s w = lawCnt T' s w := by
  unfold lawCnt
  rw [← e.1]
  refine any_congr fun k hk => ?_
  have hk := List.mem_range.mp hk
  have := e.2 k (k - k / w % s * w) hk (by omega)
  rw [decide_eq_decide]
  exact ⟨fun h z => h (this.mpr z), fun h z => h (this.mp z)⟩
theorem EqT.some {T T' : List Nat} (e : EqT T T') (s m : Nat) : someQ T s m = someQ T' s m := by
  unfold someQ
  refine List.filter_congr fun j _ => e.cnt s _
theorem EqT.frame {T T' : List Nat} {s m : Nat} (e : EqT T T') (hs : 0 < s) (hl : T.length = s ^ m) : EqT (lawFrame T s m) (lawFrame T' s m) ∧ lawSize T s m = lawSize T' s m := by
  have hf : lawFirst T s m = lawFirst T' s m := by unfold lawFirst; rw [e.some]
  have hq : lawSize T s m = lawSize T' s m := by unfold lawSize; rw [hf, e.some]
  refine ⟨⟨by rw [lawFrame_len, lawFrame_len, hq], fun k k' hk hk' => ?_⟩, hq⟩
  rw [lawFrame_len] at hk hk'
  unfold lawFrame
  rw [tb_lawTab hk, tb_lawTab hk', tb_lawTab (hq ▸ hk), tb_lawTab (hq ▸ hk'), ← hf, ← hq]
  refine e.2 _ _ ?_ ?_ <;>
  · rw [hl]
    refine win_lt s m fun j _ => ?_
    split
    · exact Nat.mod_lt _ hs
    · exact hs
/-- the ranks rise with each step of pairs -/
def RiseP (F : List Nat) (s N : Nat) (ρ : Nat → Int) : Prop := ∀ l r, l < F.length → r < F.length → tb F l = tb F r → ¬ (l / s = r / s ∧ l % N = r % N) → ρ (pn (l / s) (r / s) N) < ρ (pn (l % N) (r % N) N)
theorem EqT.rise {F F' : List Nat} {s N : Nat} {ρ : Nat → Int} (e : EqT F F') (h : RiseP F' s N ρ) : RiseP F s N ρ := fun l r hl hr he hn => h l r (e.1 ▸ hl) (e.1 ▸ hr) ((e.2 l r hl hr).mp he) hn

/-! the families by a finite set of parameters -/
def R10 (kind s : Nat) : Nat := if kind = 0 then 1 else if kind = 1 then 2 else if kind = 2 then s - 2 else if kind = 3 then 2 else if kind = 4 then (if s = 9 then 2 else 4) else 1
def R11 (kind s : Nat) : Nat := if kind = 3 then 2 else if kind = 4 then (if s = 9 then 3 else 1) else 1
def R12 (kind s : Nat) : Nat := if kind = 4 then (if s = 9 then 3 else s / 2) else 1
def R14 (kind : Nat) : Nat := if kind = 0 then 1 else if kind = 3 then 1 else 2
def baseT (kind s m x10 x11 x12 x14 : Nat) : List Nat := (List.range (s ^ m)).map fun k => toldF kind s x10 x11 x12 0 x14 (wordN s m k)
theorem hereF_mod (x : Nat) (w : List Nat) : hereF (x % 2) w = hereF x w := by unfold hereF; rw [Nat.mod_mod]
theorem thereF_mod (x : Nat) (w : List Nat) : thereF (x % 2) w = thereF x w := by unfold thereF; rw [Nat.mod_mod]
theorem here_one {w : List Nat} (x : Nat) (h : w.length = 1) : hereF x w = w.headD 0 := by
  cases w with
  | nil => cases h
  | cons a l =>
    cases l with
    | nil =>
      unfold hereF
      split <;> rfl
    | cons b l => simp at h
theorem told_eq {kind s m x10 x11 x12 x13 x14 : Nat} (f : FamOk kind s m) (f0 : kind = 0 → m = 1) (f4 : kind = 4 → s = 4 ∨ s = 8 ∨ s = 9) {w w' : List Nat} (hw : w.length = m) (hw' : w'.length = m) :
    toldF kind s x10 x11 x12 x13 x14 w = toldF kind s x10 x11 x12 x13 x14 w' ↔ toldF kind s (x10 % R10 kind s) (x11 % R11 kind s) (x12 % R12 kind s) 0 (x14 % R14 kind) w = toldF kind s (x10 % R10 kind s) (x11 % R11 kind s) (x12 % R12 kind s) 0 (x14 % R14 kind) w' := by
  have hk := f.k6
  have h7 : kind = 0 ∨ kind = 1 ∨ kind = 2 ∨ kind = 3 ∨ kind = 4 ∨ kind = 5 ∨ kind = 6 := by omega
  rcases h7 with rfl | rfl | rfl | rfl | rfl | rfl | rfl
  · have h1 := f0 rfl
    show (hereF x14 w = hereF x14 w') ↔ (hereF _ w = hereF _ w')
    rw [here_one _ (by omega), here_one _ (by omega), here_one _ (by omega), here_one _ (by omega)]
  · have e : ∀ v, tracksF s (x10 % 2) (hereF (x14 % 2) v) (thereF (x14 % 2) v) = tracksF s x10 (hereF x14 v) (thereF x14 v) := fun v => by rw [hereF_mod, thereF_mod, ← tracks_mod]
    show tracksF s x10 (hereF x14 w) (thereF x14 w) = tracksF s x10 (hereF x14 w') (thereF x14 w') ↔ tracksF s (x10 % 2) (hereF (x14 % 2) w) (thereF (x14 % 2) w) = tracksF s (x10 % 2) (hereF (x14 % 2) w') (thereF (x14 % 2) w')
    rw [e, e]
  · have e : ∀ v, marksF s (x10 % (s - 2)) (hereF (x14 % 2) v) (thereF (x14 % 2) v) = marksF s x10 (hereF x14 v) (thereF x14 v) := fun v => by
      rw [hereF_mod, thereF_mod]
      unfold marksF
      rw [Nat.mod_mod]
    show marksF s x10 (hereF x14 w) (thereF x14 w) = marksF s x10 (hereF x14 w') (thereF x14 w') ↔ marksF s (x10 % (s - 2)) (hereF (x14 % 2) w) (thereF (x14 % 2) w) = marksF s (x10 % (s - 2)) (hereF (x14 % 2) w') (thereF (x14 % 2) w')
    rw [e, e]
  · have e : ∀ v, flipF (x10 % 2) (x11 % 2) v = flipF x10 x11 v := fun v => by
      unfold flipF
      rw [Nat.mod_mod, Nat.mod_mod]
    show flipF x10 x11 w = flipF x10 x11 w' ↔ flipF (x10 % 2) (x11 % 2) w = flipF (x10 % 2) (x11 % 2) w'
    rw [e, e]
  · have key : ∀ (s : Nat) (v : List Nat), (s = 4 ∨ s = 8 ∨ s = 9) → ∃ A : Nat, sumsF s x10 x11 x12 x13 (hereF x14 v) (thereF x14 v) = (A + x13) % s ∧ sumsF s (x10 % R10 4 s) (x11 % R11 4 s) (x12 % R12 4 s) 0 (hereF (x14 % 2) v) (thereF (x14 % 2) v) = A % s := fun s v hs => by
      rw [hereF_mod, thereF_mod]
      unfold sumsF R10 R11 R12
      rcases hs with rfl | rfl | rfl
      · refine ⟨(1 + x10 % 4 * 2) * hereF x14 v + x12 % 2 * 2 * thereF x14 v, rfl, ?_⟩
        show ((1 + x10 % 4 % 4 * 2) * hereF x14 v + x12 % 2 % 2 * 2 * thereF x14 v + 0) % 4 = _
        rw [Nat.mod_mod, Nat.mod_mod, Nat.add_zero]
      · refine ⟨(1 + x10 % 4 * 2) * hereF x14 v + x12 % 4 * 2 * thereF x14 v, rfl, ?_⟩
        show ((1 + x10 % 4 % 4 * 2) * hereF x14 v + x12 % 4 % 4 * 2 * thereF x14 v + 0) % 8 = _
        rw [Nat.mod_mod, Nat.mod_mod, Nat.add_zero]
      · refine ⟨(1 + x10 % 2 + x11 % 3 * 3) * hereF x14 v + x12 % 3 * 3 * thereF x14 v, rfl, ?_⟩
        show ((1 + x10 % 2 % 2 + x11 % 3 % 3 * 3) * hereF x14 v + x12 % 3 % 3 * 3 * thereF x14 v + 0) % 9 = _
        rw [Nat.mod_mod, Nat.mod_mod, Nat.mod_mod, Nat.add_zero]
    obtain ⟨A, a1, a2⟩ := key s w (f4 rfl)
    obtain ⟨B, b1, b2⟩ := key s w' (f4 rfl)
    show sumsF s x10 x11 x12 x13 (hereF x14 w) (thereF x14 w) = sumsF s x10 x11 x12 x13 (hereF x14 w') (thereF x14 w') ↔ sumsF s (x10 % R10 4 s) (x11 % R11 4 s) (x12 % R12 4 s) 0 (hereF (x14 % 2) w) (thereF (x14 % 2) w) = sumsF s (x10 % R10 4 s) (x11 % R11 4 s) (x12 % R12 4 s) 0 (hereF (x14 % 2) w') (thereF (x14 % 2) w')
    rw [a1, a2, b1, b2]
    rcases f4 rfl with rfl | rfl | rfl <;> omega
  · show threeF (hereF x14 w) (thereF x14 w) = threeF (hereF x14 w') (thereF x14 w') ↔ threeF (hereF (x14 % 2) w) (thereF (x14 % 2) w) = threeF (hereF (x14 % 2) w') (thereF (x14 % 2) w')
    rw [hereF_mod, thereF_mod, hereF_mod, thereF_mod]
  · show downF s (hereF x14 w) (thereF x14 w) = downF s (hereF x14 w') (thereF x14 w') ↔ downF s (hereF (x14 % 2) w) (thereF (x14 % 2) w) = downF s (hereF (x14 % 2) w') (thereF (x14 % 2) w')
    rw [hereF_mod, thereF_mod, hereF_mod, thereF_mod]
theorem perm_inj {names : List Nat} {s a b : Nat} (hp : names.Perm (List.range s)) (ha : a < s) (hb : b < s) (h : tb names a = tb names b) : a = b := by
  have hn : names.Nodup := hp.nodup_iff.mpr List.nodup_range
  have hl : names.length = s := by rw [hp.length_eq, List.length_range]
  unfold tb at h
  rw [List.getD_eq_getElem?_getD, List.getD_eq_getElem?_getD, List.getElem?_eq_getElem (by omega), List.getElem?_eq_getElem (by omega)] at h
  exact (List.getElem_inj hn).mp h
theorem fam_more : ∀ q ∈ famL, (q.1 = 0 → q.2.2 = 1) ∧ (q.1 = 4 → q.2.1 = 4 ∨ q.2.1 = 8 ∨ q.2.1 = 9) := by decide +kernel
theorem core_eqT {kind s m x10 x11 x12 x13 x14 : Nat} {names : List Nat} (hf : Fam kind s m) (hp : names.Perm (List.range s)) : EqT (coreT kind s m x10 x11 x12 x13 x14 names) (baseT kind s m (x10 % R10 kind s) (x11 % R11 kind s) (x12 % R12 kind s) (x14 % R14 kind)) := by
  have f := hf.ok
  obtain ⟨f0, f4⟩ := fam_more _ hf
  have hs : 0 < s := by have := f.s2; omega
  refine ⟨by rw [coreT_len]; unfold baseT; rw [List.length_map, List.length_range], fun k k' hk hk' => ?_⟩
  rw [coreT_len] at hk hk'
  unfold coreT baseT
  rw [tb_map hk, tb_map hk', tb_map hk, tb_map hk']
  have h1 := toldF_lt (x10 := x10) (x11 := x11) (x12 := x12) (x13 := x13) (x14 := x14) f (wordN_lt s hs m k)
  have h2 := toldF_lt (x10 := x10) (x11 := x11) (x12 := x12) (x13 := x13) (x14 := x14) f (wordN_lt s hs m k')
  have h3 := told_eq (x10 := x10) (x11 := x11) (x12 := x12) (x13 := x13) (x14 := x14) f f0 f4 (wordN_len s m k) (wordN_len s m k')
  exact ⟨fun h => h3.mp (perm_inj hp h1 h2 h), fun h => by rw [h3.mpr h]⟩
end K52
/-! Ranks for the families' tables (printed by cert.py). -/
namespace K52
def dig (x i : Nat) : Nat := x / 16 ^ i % 16
def allB : Nat → (Nat → Bool) → Bool
  | 0, _ => true
  | n + 1, f => f n && allB n f
theorem allB_of {n : Nat} {f : Nat → Bool} (h : allB n f = true) : ∀ k, k < n → f k = true := by
  induction n with
  | zero => intro k hk; exact absurd hk (Nat.not_lt_zero _)
  | succ n ih =>
    intro k hk
    unfold allB at h
    rw [Bool.and_eq_true] at h
    by_cases e : k = n
    · rw [e]; exact h.1
    · exact ih h.2 k (by omega)
def lessB (ρ s N l r : Nat) : Bool := Nat.blt (dig ρ (pn (l / s) (r / s) N)) (dig ρ (pn (l % N) (r % N) N))
def chkLR (ρ s N l r : Nat) : Bool := if l / s = r / s then (if l % N = r % N then true else lessB ρ s N l r) else lessB ρ s N l r
/-- has: k stands in the list -/
def hasB (k : Nat) : List Nat → Bool
  | [] => false
  | a :: l => Nat.beq a k || hasB k l
theorem hasB_mem {k : Nat} : ∀ {l : List Nat}, hasB k l = true → k ∈ l
  | [], h => by cases h
  | a :: l, h => by
    unfold hasB at h
    rcases Bool.or_eq_true _ _ ▸ h with h | h
    · rw [Nat.eq_of_beq_eq_true h]; exact List.mem_cons_self
    · exact List.mem_cons_of_mem _ (hasB_mem h)
def chkB (x ρ s N n : Nat) (G : List (List Nat)) : Bool := (allB n fun k => hasB k (G.getD (dig x k) [])) && G.all fun ws => ws.all fun l => ws.all fun r => chkLR ρ s N l r
def encB (l : List Nat) : Nat := l.foldr (fun d a => a * 16 + d) 0
abbrev Cert := (Nat × Nat × Nat × Nat × Nat × Nat × Nat) × Nat × Nat × Nat × List (List Nat)
def certOk (c : Cert) : Bool :=
  Nat.beq (lawSize (baseT c.1.1 c.1.2.1 c.1.2.2.1 c.1.2.2.2.1 c.1.2.2.2.2.1 c.1.2.2.2.2.2.1 c.1.2.2.2.2.2.2) c.1.2.1 c.1.2.2.1) c.2.1 &&
  Nat.beq (encB (lawFrame (baseT c.1.1 c.1.2.1 c.1.2.2.1 c.1.2.2.2.1 c.1.2.2.2.2.1 c.1.2.2.2.2.2.1 c.1.2.2.2.2.2.2) c.1.2.1 c.1.2.2.1)) c.2.2.1 &&
  chkB c.2.2.1 c.2.2.2.1 c.1.2.1 (c.1.2.1 ^ (c.2.1 - 1)) (c.1.2.1 ^ c.2.1) c.2.2.2.2
def certs0 : List Cert := [((0, 2, 1, 0, 0, 0, 0), 2, 4352, 272, [[0, 1], [2, 3]]), ((0, 3, 1, 0, 0, 0, 0), 2, 9161478144, 286265616, [[0, 1, 2], [3, 4, 5], [6, 7, 8]]), ((0, 4, 1, 0, 0, 0, 0), 2, 3689330049457127424, 76860334127780112, [[0, 1, 2, 3], [4, 5, 6, 7], [8, 9, 10, 11], [12, 13, 14, 15]]), ((0, 5, 1, 0, 0, 0, 0), 2, 338040079465729671250234572800, 5281872778584191494930895120, [[0, 1, 2, 3, 4], [5, 6, 7, 8, 9], [10, 11, 12, 13, 14], [15, 16, 17, 18, 19], [20, 21, 22, 23, 24]]), ((0, 6, 1, 0, 0, 0, 0), 2, 7433581644228336046306365455222187271127040, 92919766468247385212091345047210742059280, [[0, 1, 2, 3, 4, 5], [6, 7, 8, 9, 10, 11], [12, 13, 14, 15, 16, 17], [18, 19, 20, 21, 22, 23], [24, 25, 26, 27, 28, 29], [30, 31, 32, 33, 34, 35]])]
theorem certs0_ok : certs0.all certOk = true := by decide +kernel
def certs1 : List Cert := [((0, 7, 1, 0, 0, 0, 0), 2, 40173451081531795518515203831155455636455630878263237148672, 418473447564277079917867343009992969027788320871686410512, [[0, 1, 2, 3, 4, 5, 6], [7, 8, 9, 10, 11, 12, 13], [14, 15, 16, 17, 18, 19, 20], [21, 22, 23, 24, 25, 26, 27], [28, 29, 30, 31, 32, 33, 34], [35, 36, 37, 38, 39, 40, 41], [42, 43, 44, 45, 46, 47, 48]]), ((0, 8, 1, 0, 0, 0, 0), 2, 54036308308950228086104610235286677165624219151829019065256519428071000899584, 482467038383505189261456088630726732101397301619095080046206168533918880016, [[0, 1, 2, 3, 4, 5, 6, 7], [8, 9, 10, 11, 12, 13, 14, 15], [16, 17, 18, 19, 20, 21, 22, 23], [24, 25, 26, 27, 28, 29, 30, 31], [32, 33, 34, 35, 36, 37, 38, 39], [40, 41, 42, 43, 44, 45, 46, 47], [48, 49, 50, 51, 52, 53, 54, 55], [56, 57, 58, 59, 60, 61, 62, 63]]), ((0, 9, 1, 0, 0, 0, 0), 2, 18227089373158611154009716982797990056432914316353721106797724098808504709811527551544085786394624, 142399135726118003267440617826652565742089155025848591059607149028970553543627677218219903488272, [[0, 1, 2, 3, 4, 5, 6, 7, 8], [9, 10, 11, 12, 13, 14, 15, 16, 17], [18, 19, 20, 21, 22, 23, 24, 25, 26], [27, 28, 29, 30, 31, 32, 33, 34, 35], [36, 37, 38, 39, 40, 41, 42, 43, 44], [45, 46, 47, 48, 49, 50, 51, 52, 53], [54, 55, 56, 57, 58, 59, 60, 61, 62], [63, 64, 65, 66, 67, 68, 69, 70, 71], [72, 73, 74, 75, 76, 77, 78, 79, 80]]), ((1, 4, 2, 0, 0, 0, 0), 2, 3617008641331171344, 9007208381547009, [[0, 2, 4, 6], [1, 3, 5, 7], [8, 10, 12, 14], [9, 11, 13, 15]]), ((1, 4, 2, 0, 0, 0, 1), 2, 3679759754790511104, 144150372448075809, [[0, 1, 8, 9], [4, 5, 12, 13], [2, 3, 10, 11], [6, 7, 14, 15]])]
theorem certs1_ok : certs1.all certOk = true := by decide +kernel
def certs2 : List Cert := [((1, 4, 2, 1, 0, 0, 0), 2, 3617008641331171344, 9007208381547009, [[0, 2, 4, 6], [1, 3, 5, 7], [8, 10, 12, 14], [9, 11, 13, 15]]), ((1, 4, 2, 1, 0, 0, 1), 2, 3679759754790511104, 144150372448075809, [[0, 1, 8, 9], [4, 5, 12, 13], [2, 3, 10, 11], [6, 7, 14, 15]]), ((1, 6, 2, 0, 0, 0, 0), 2, 7346127830104194706397940587864368771764240, 10931571078068327342559683367274167796225, [[0, 2, 4, 6, 8, 10], [1, 3, 5, 7, 9, 11], [12, 14, 16, 18, 20, 22], [13, 15, 17, 19, 21, 23], [24, 26, 28, 30, 32, 34], [25, 27, 29, 31, 33, 35]]), ((1, 6, 2, 0, 0, 0, 1), 2, 7421921655554331845024527135436879002083840, 174224738017019968825585857053215455969313, [[0, 1, 12, 13, 24, 25], [6, 7, 18, 19, 30, 31], [2, 3, 14, 15, 26, 27], [8, 9, 20, 21, 32, 33], [4, 5, 16, 17, 28, 29], [10, 11, 22, 23, 34, 35]]), ((1, 6, 2, 1, 0, 0, 0), 2, 7335556479223626220181866885252227767796240, 680564736377178137418236796153962176513, [[0, 3, 6, 9, 12, 15], [1, 4, 7, 10, 13, 16], [2, 5, 8, 11, 14, 17], [18, 21, 24, 27, 30, 33], [19, 22, 25, 28, 31, 34], [20, 23, 26, 29, 32, 35]])]
theorem certs2_ok : certs2.all certOk = true := by decide +kernel
def certs3 : List Cert := [((1, 6, 2, 1, 0, 0, 1), 2, 7432493006434900331240600838049020006051840, 185113774407537627045747288287570957435425, [[0, 1, 2, 18, 19, 20], [6, 7, 8, 24, 25, 26], [12, 13, 14, 30, 31, 32], [3, 4, 5, 21, 22, 23], [9, 10, 11, 27, 28, 29], [15, 16, 17, 33, 34, 35]]), ((1, 8, 2, 0, 0, 0, 0), 2, 53582221686287494352031195184400101885113222547769466630392678046552101490704, 56760824675124924901939189655057799450740393885152104309967398685632496129, [[0, 2, 4, 6, 8, 10, 12, 14], [1, 3, 5, 7, 9, 11, 13, 15], [16, 18, 20, 22, 24, 26, 28, 30], [17, 19, 21, 23, 25, 27, 29, 31], [32, 34, 36, 38, 40, 42, 44, 46], [33, 35, 37, 39, 41, 43, 45, 47], [48, 50, 52, 54, 56, 58, 60, 62], [49, 51, 53, 55, 57, 59, 61, 63]]), ((1, 8, 2, 0, 0, 0, 1), 2, 53975763440067524511241021382821535793236645719937144149469282861261978345984, 904625700536526110140669856657073025934773403288702249427579324889976274977, [[0, 1, 16, 17, 32, 33, 48, 49], [8, 9, 24, 25, 40, 41, 56, 57], [2, 3, 18, 19, 34, 35, 50, 51], [10, 11, 26, 27, 42, 43, 58, 59], [4, 5, 20, 21, 36, 37, 52, 53], [12, 13, 28, 29, 44, 45, 60, 61], [6, 7, 22, 23, 38, 39, 54, 55], [14, 15, 30, 31, 46, 47, 62, 63]]), ((1, 8, 2, 1, 0, 0, 0), 2, 53522147969432855600378611091526270003590563833787650038845856414560569799184, 220855883100511917286476936196344050656530037842348576132133479885438977, [[0, 4, 8, 12, 16, 20, 24, 28], [1, 5, 9, 13, 17, 21, 25, 29], [2, 6, 10, 14, 18, 22, 26, 30], [3, 7, 11, 15, 19, 23, 27, 31], [32, 36, 40, 44, 48, 52, 56, 60], [33, 37, 41, 45, 49, 53, 57, 61], [34, 38, 42, 46, 50, 54, 58, 62], [35, 39, 43, 47, 51, 55, 59, 63]]), ((1, 8, 2, 1, 0, 0, 1), 2, 54035837156922163262893605475695367674759304433918960741016104493253510037504, 964698500752977966917409797465798718679596664362279162707501599658336068129, [[0, 1, 2, 3, 32, 33, 34, 35], [8, 9, 10, 11, 40, 41, 42, 43], [16, 17, 18, 19, 48, 49, 50, 51], [24, 25, 26, 27, 56, 57, 58, 59], [4, 5, 6, 7, 36, 37, 38, 39], [12, 13, 14, 15, 44, 45, 46, 47], [20, 21, 22, 23, 52, 53, 54, 55], [28, 29, 30, 31, 60, 61, 62, 63]])]
theorem certs3_ok : certs3.all certOk = true := by decide +kernel
def certs4 : List Cert := [((1, 9, 2, 0, 0, 0, 0), 2, 18076866109126998733939407142615851485446752473371490305352869605454700108943710467066728210825744, 1043217049381247487309439180024035500780451580446137635038933924983123369733129496663995457537, [[0, 3, 6, 9, 12, 15, 18, 21, 24], [1, 4, 7, 10, 13, 16, 19, 22, 25], [2, 5, 8, 11, 14, 17, 20, 23, 26], [27, 30, 33, 36, 39, 42, 45, 48, 51], [28, 31, 34, 37, 40, 43, 46, 49, 52], [29, 32, 35, 38, 41, 44, 47, 50, 53], [54, 57, 60, 63, 66, 69, 72, 75, 78], [55, 58, 61, 64, 67, 70, 73, 76, 79], [56, 59, 62, 65, 68, 71, 74, 77, 80]]), ((1, 9, 2, 0, 0, 0, 1), 2, 18225420226078507681387729933474395914371193248643304123216654068350432076456550505649495168200704, 283685778270654108481801531557170795266092012141882299456146793565064395500232585597551422472737, [[0, 1, 2, 27, 28, 29, 54, 55, 56], [9, 10, 11, 36, 37, 38, 63, 64, 65], [18, 19, 20, 45, 46, 47, 72, 73, 74], [3, 4, 5, 30, 31, 32, 57, 58, 59], [12, 13, 14, 39, 40, 41, 66, 67, 68], [21, 22, 23, 48, 49, 50, 75, 76, 77], [6, 7, 8, 33, 34, 35, 60, 61, 62], [15, 16, 17, 42, 43, 44, 69, 70, 71], [24, 25, 26, 51, 52, 53, 78, 79, 80]]), ((1, 9, 2, 1, 0, 0, 0), 2, 18076866109126998733939407142615851485446752473371490305352869605454700108943710467066728210825744, 1043217049381247487309439180024035500780451580446137635038933924983123369733129496663995457537, [[0, 3, 6, 9, 12, 15, 18, 21, 24], [1, 4, 7, 10, 13, 16, 19, 22, 25], [2, 5, 8, 11, 14, 17, 20, 23, 26], [27, 30, 33, 36, 39, 42, 45, 48, 51], [28, 31, 34, 37, 40, 43, 46, 49, 52], [29, 32, 35, 38, 41, 44, 47, 50, 53], [54, 57, 60, 63, 66, 69, 72, 75, 78], [55, 58, 61, 64, 67, 70, 73, 76, 79], [56, 59, 62, 65, 68, 71, 74, 77, 80]]), ((1, 9, 2, 1, 0, 0, 1), 2, 18225420226078507681387729933474395914371193248643304123216654068350432076456550505649495168200704, 283685778270654108481801531557170795266092012141882299456146793565064395500232585597551422472737, [[0, 1, 2, 27, 28, 29, 54, 55, 56], [9, 10, 11, 36, 37, 38, 63, 64, 65], [18, 19, 20, 45, 46, 47, 72, 73, 74], [3, 4, 5, 30, 31, 32, 57, 58, 59], [12, 13, 14, 39, 40, 41, 66, 67, 68], [21, 22, 23, 48, 49, 50, 75, 76, 77], [6, 7, 8, 33, 34, 35, 60, 61, 62], [15, 16, 17, 42, 43, 44, 69, 70, 71], [24, 25, 26, 51, 52, 53, 78, 79, 80]]), ((2, 3, 2, 0, 0, 0, 0), 2, 9160429824, 572527120, [[0, 1, 5], [2, 3, 4], [6, 7, 8]])]
theorem certs4_ok : certs4.all certOk = true := by decide +kernel
def certs5 : List Cert := [((2, 3, 2, 0, 0, 0, 1), 2, 8608875024, 4114, [[0, 3, 7], [1, 4, 6], [2, 5, 8]]), ((2, 4, 2, 0, 0, 0, 0), 2, 3689294865353478144, 153720595224273168, [[0, 1, 2, 11], [3, 4, 5, 6], [7, 8, 9, 10], [12, 13, 14, 15]]), ((2, 4, 2, 0, 0, 0, 1), 2, 3468108233192780304, 73031287058, [[0, 4, 8, 14], [1, 5, 9, 12], [2, 6, 10, 13], [3, 7, 11, 15]]), ((2, 4, 2, 1, 0, 0, 0), 2, 3689312457002655744, 153720595224273168, [[0, 1, 2, 7], [4, 5, 6, 11], [3, 8, 9, 10], [12, 13, 14, 15]]), ((2, 4, 2, 1, 0, 0, 1), 2, 3531440102952677904, 73031287058, [[0, 4, 8, 13], [1, 5, 9, 14], [2, 6, 10, 12], [3, 7, 11, 15]])]
theorem certs5_ok : certs5.all certOk = true := by decide +kernel
def certs6 : List Cert := [((2, 5, 2, 0, 0, 0, 0), 2, 338039852792210551170021785600, 10563745242416289936303067408, [[0, 1, 2, 3, 19], [4, 5, 6, 7, 8], [9, 10, 11, 12, 13], [14, 15, 16, 17, 18], [20, 21, 22, 23, 24]]), ((2, 5, 2, 0, 0, 0, 1), 2, 317881316646167897047249990160, 296305347876042575890, [[0, 5, 10, 15, 23], [1, 6, 11, 16, 20], [2, 7, 12, 17, 21], [3, 8, 13, 18, 22], [4, 9, 14, 19, 24]]), ((2, 5, 2, 1, 0, 0, 0), 2, 338039928349858104370950963200, 10563745242416289936303067408, [[0, 1, 2, 3, 14], [5, 6, 7, 8, 19], [4, 10, 11, 12, 13], [9, 15, 16, 17, 18], [20, 21, 22, 23, 24]]), ((2, 5, 2, 1, 0, 0, 1), 2, 321925173512778831636642148880, 18446745177516146946, [[0, 5, 10, 15, 22], [1, 6, 11, 16, 23], [2, 7, 12, 17, 20], [3, 8, 13, 18, 21], [4, 9, 14, 19, 24]]), ((2, 5, 2, 2, 0, 0, 0), 2, 338040003907793887673153945600, 10563745242416289936303067408, [[0, 1, 2, 3, 9], [5, 6, 7, 8, 14], [10, 11, 12, 13, 19], [4, 15, 16, 17, 18], [20, 21, 22, 23, 24]])]
theorem certs6_ok : certs6.all certOk = true := by decide +kernel
def certs7 : List Cert := [((2, 5, 2, 2, 0, 0, 1), 2, 327129599166219810233752236560, 296305347876042575890, [[0, 5, 10, 15, 21], [1, 6, 11, 16, 22], [2, 7, 12, 17, 23], [3, 8, 13, 18, 20], [4, 9, 14, 19, 24]]), ((2, 6, 2, 0, 0, 0, 0), 2, 7433581311921342051837849518714293337456640, 185839532590346617625126323527920633581840, [[0, 1, 2, 3, 4, 29], [5, 6, 7, 8, 9, 10], [11, 12, 13, 14, 15, 16], [17, 18, 19, 20, 21, 22], [23, 24, 25, 26, 27, 28], [30, 31, 32, 33, 34, 35]]), ((2, 6, 2, 0, 0, 0, 1), 2, 6991826094816733815978323403115294679642640, 324598092514877789505556010041362, [[0, 6, 12, 18, 24, 34], [1, 7, 13, 19, 25, 30], [2, 8, 14, 20, 26, 31], [3, 9, 15, 21, 27, 32], [4, 10, 16, 22, 28, 33], [5, 11, 17, 23, 29, 35]]), ((2, 6, 2, 1, 0, 0, 0), 2, 7433581394998071981354758157040607758909440, 185839532590346617625126323527920633581840, [[0, 1, 2, 3, 4, 23], [6, 7, 8, 9, 10, 29], [5, 12, 13, 14, 15, 16], [11, 18, 19, 20, 21, 22], [17, 24, 25, 26, 27, 28], [30, 31, 32, 33, 34, 35]]), ((2, 6, 2, 1, 0, 0, 1), 2, 7057523188508403282996594067069650710311440, 21550060284178577060944840495362, [[0, 6, 12, 18, 24, 33], [1, 7, 13, 19, 25, 34], [2, 8, 14, 20, 26, 30], [3, 9, 15, 21, 27, 31], [4, 10, 16, 22, 28, 32], [5, 11, 17, 23, 29, 35]])]
theorem certs7_ok : certs7.all certOk = true := by decide +kernel
def certs8 : List Cert := [((2, 6, 2, 2, 0, 0, 0), 2, 7433581478074826669670976763446523398717440, 185839532590346617625126323527920633581840, [[0, 1, 2, 3, 4, 17], [6, 7, 8, 9, 10, 23], [12, 13, 14, 15, 16, 29], [5, 18, 19, 20, 21, 22], [11, 24, 25, 26, 27, 28], [30, 31, 32, 33, 34, 35]]), ((2, 6, 2, 2, 0, 0, 1), 2, 7148741459719143134774617826581389356839440, 21550060284178577060944840495362, [[0, 6, 12, 18, 24, 32], [1, 7, 13, 19, 25, 33], [2, 8, 14, 20, 26, 34], [3, 9, 15, 21, 27, 30], [4, 10, 16, 22, 28, 31], [5, 11, 17, 23, 29, 35]]), ((2, 6, 2, 3, 0, 0, 0), 2, 7433581561151581357988671109290374872432640, 185839532590346617625126323527920633581840, [[0, 1, 2, 3, 4, 11], [6, 7, 8, 9, 10, 17], [12, 13, 14, 15, 16, 23], [18, 19, 20, 21, 22, 29], [5, 24, 25, 26, 27, 28], [30, 31, 32, 33, 34, 35]]), ((2, 6, 2, 3, 0, 0, 1), 2, 7241554804524824885600126154565464416858640, 324598092514877789505556010041362, [[0, 6, 12, 18, 24, 31], [1, 7, 13, 19, 25, 32], [2, 8, 14, 20, 26, 33], [3, 9, 15, 21, 27, 34], [4, 10, 16, 22, 28, 30], [5, 11, 17, 23, 29, 35]]), ((2, 7, 2, 0, 0, 0, 0), 2, 40173450964611664619155256631139470533129439709706135273472, 836946895031120804799576448085375089180360533453795561744, [[0, 1, 2, 3, 4, 5, 41], [6, 7, 8, 9, 10, 11, 12], [13, 14, 15, 16, 17, 18, 19], [20, 21, 22, 23, 24, 25, 26], [27, 28, 29, 30, 31, 32, 33], [34, 35, 36, 37, 38, 39, 40], [42, 43, 44, 45, 46, 47, 48]])]
theorem certs8_ok : certs8.all certOk = true := by decide +kernel
def certs9 : List Cert := [((2, 7, 2, 0, 0, 0, 1), 2, 37791639875427468000727557303884312036338891979605249634832, 91345251595541860491853078089286110473115140114, [[0, 7, 14, 21, 28, 35, 47], [1, 8, 15, 22, 29, 36, 42], [2, 9, 16, 23, 30, 37, 43], [3, 10, 17, 24, 31, 38, 44], [4, 11, 18, 25, 32, 39, 45], [5, 12, 19, 26, 33, 40, 46], [6, 13, 20, 27, 34, 41, 48]]), ((2, 7, 2, 1, 0, 0, 0), 2, 40173450987995690380888273988115749490823021412922584727552, 836946895031120804799576448085375089180360533453795561744, [[0, 1, 2, 3, 4, 5, 34], [7, 8, 9, 10, 11, 12, 41], [6, 14, 15, 16, 17, 18, 19], [13, 21, 22, 23, 24, 25, 26], [20, 28, 29, 30, 31, 32, 33], [27, 35, 36, 37, 38, 39, 40], [42, 43, 44, 45, 46, 47, 48]]), ((2, 7, 2, 1, 0, 0, 1), 2, 38062993727587160110800132146815505637427086518045310726672, 5731291517356810722737223680533558517794144514, [[0, 7, 14, 21, 28, 35, 46], [1, 8, 15, 22, 29, 36, 47], [2, 9, 16, 23, 30, 37, 42], [3, 10, 17, 24, 31, 38, 43], [4, 11, 18, 25, 32, 39, 44], [5, 12, 19, 26, 33, 40, 45], [6, 13, 20, 27, 34, 41, 48]]), ((2, 7, 2, 2, 0, 0, 0), 2, 40173451011379716665295004988542186377699639432398883520512, 836946895031120804799576448085375089180360533453795561744, [[0, 1, 2, 3, 4, 5, 27], [7, 8, 9, 10, 11, 12, 34], [14, 15, 16, 17, 18, 19, 41], [6, 21, 22, 23, 24, 25, 26], [13, 28, 29, 30, 31, 32, 33], [20, 35, 36, 37, 38, 39, 40], [42, 43, 44, 45, 46, 47, 48]]), ((2, 7, 2, 2, 0, 0, 1), 2, 38472272178424782218124958222190227065040967577481896014352, 356811923259566720020547105396439298667974658, [[0, 7, 14, 21, 28, 35, 45], [1, 8, 15, 22, 29, 36, 46], [2, 9, 16, 23, 30, 37, 47], [3, 10, 17, 24, 31, 38, 42], [4, 11, 18, 25, 32, 39, 43], [5, 12, 19, 26, 33, 40, 44], [6, 13, 20, 27, 34, 41, 48]])]
theorem certs9_ok : certs9.all certOk = true := by decide +kernel
def certs10 : List Cert := [((2, 7, 2, 3, 0, 0, 0), 2, 40173451034763742949701737936079937961581700463036257533952, 836946895031120804799576448085375089180360533453795561744, [[0, 1, 2, 3, 4, 5, 20], [7, 8, 9, 10, 11, 12, 27], [14, 15, 16, 17, 18, 19, 34], [21, 22, 23, 24, 25, 26, 41], [6, 28, 29, 30, 31, 32, 33], [13, 35, 36, 37, 38, 39, 40], [42, 43, 44, 45, 46, 47, 48]]), ((2, 7, 2, 3, 0, 0, 1), 2, 38890170916679774950278049999592668981812704044480764064272, 5731291517356810722737223680533558517794144514, [[0, 7, 14, 21, 28, 35, 44], [1, 8, 15, 22, 29, 36, 45], [2, 9, 16, 23, 30, 37, 46], [3, 10, 17, 24, 31, 38, 47], [4, 11, 18, 25, 32, 39, 42], [5, 12, 19, 26, 33, 40, 43], [6, 13, 20, 27, 34, 41, 48]]), ((2, 7, 2, 4, 0, 0, 0), 2, 40173451058147769234108470883617696799018652159850915561472, 836946895031120804799576448085375089180360533453795561744, [[0, 1, 2, 3, 4, 5, 13], [7, 8, 9, 10, 11, 12, 20], [14, 15, 16, 17, 18, 19, 27], [21, 22, 23, 24, 25, 26, 34], [28, 29, 30, 31, 32, 33, 41], [6, 35, 36, 37, 38, 39, 40], [42, 43, 44, 45, 46, 47, 48]]), ((2, 7, 2, 4, 0, 0, 1), 2, 39308608422898353346482908383371843429156806474452274786832, 91345251595541860491853078089286110473115140114, [[0, 7, 14, 21, 28, 35, 43], [1, 8, 15, 22, 29, 36, 44], [2, 9, 16, 23, 30, 37, 45], [3, 10, 17, 24, 31, 38, 46], [4, 11, 18, 25, 32, 39, 47], [5, 12, 19, 26, 33, 40, 42], [6, 13, 20, 27, 34, 41, 48]]), ((3, 2, 4, 0, 0, 0, 0), 4, 1229764173518405888, 1537191460186009383895396512137797290182716839252836214492568168576302728242, [[0, 1, 3, 6, 8, 9, 10, 11], [2, 4, 5, 7, 12, 13, 14, 15]])]
theorem certs10_ok : certs10.all certOk = true := by decide +kernel
def certs11 : List Cert := [((3, 2, 4, 0, 1, 0, 0), 4, 1225260642627289088, 1477086308033426752983845264321017388534463608428177670278898397895998858802, [[0, 1, 2, 3, 8, 10, 11, 13], [4, 5, 6, 7, 9, 12, 14, 15]]), ((3, 2, 4, 1, 0, 0, 0), 4, 1224997790610952448, 2272282663458223414083261418530617142214705394144237725708483613702088753236, [[0, 1, 5, 6, 8, 9, 12, 13], [2, 3, 4, 7, 10, 11, 14, 15]]), ((3, 2, 4, 1, 1, 0, 0), 4, 1224980267161096448, 2261917103123377097632825995570214302228117630539708683545513174973772030036, [[0, 1, 4, 5, 8, 11, 12, 13], [2, 3, 6, 7, 9, 10, 14, 15]]), ((4, 4, 2, 0, 0, 0, 0), 2, 3689330049457127424, 76860334127780112, [[0, 1, 2, 3], [4, 5, 6, 7], [8, 9, 10, 11], [12, 13, 14, 15]]), ((4, 4, 2, 0, 0, 0, 1), 2, 3689330049457127424, 76860334127780112, [[0, 1, 2, 3], [4, 5, 6, 7], [8, 9, 10, 11], [12, 13, 14, 15]])]
theorem certs11_ok : certs11.all certOk = true := by decide +kernel
def certs12 : List Cert := [((4, 4, 2, 0, 0, 1, 0), 2, 1374444519716626464, 149217064064786720, [[0, 2, 9, 11], [4, 6, 13, 15], [1, 3, 8, 10], [5, 7, 12, 14]]), ((4, 4, 2, 0, 0, 1, 1), 2, 1167050298014970384, 4503604190773506, [[0, 6, 8, 14], [1, 7, 9, 15], [2, 4, 10, 12], [3, 5, 11, 13]]), ((4, 4, 2, 1, 0, 0, 0), 2, 1229801703532068864, 76860334127780112, [[0, 1, 2, 3], [12, 13, 14, 15], [8, 9, 10, 11], [4, 5, 6, 7]]), ((4, 4, 2, 1, 0, 0, 1), 2, 1229801703532068864, 76860334127780112, [[0, 1, 2, 3], [12, 13, 14, 15], [8, 9, 10, 11], [4, 5, 6, 7]]), ((4, 4, 2, 1, 0, 1, 0), 2, 3544616589650501664, 149217064064786720, [[0, 2, 9, 11], [5, 7, 12, 14], [1, 3, 8, 10], [4, 6, 13, 15]])]
theorem certs12_ok : certs12.all certOk = true := by decide +kernel
def certs13 : List Cert := [((4, 4, 2, 1, 0, 1, 1), 2, 3463851061575553584, 4503604190773506, [[0, 6, 8, 14], [3, 5, 11, 13], [2, 4, 10, 12], [1, 7, 9, 15]]), ((4, 4, 2, 2, 0, 0, 0), 2, 3689330049457127424, 76860334127780112, [[0, 1, 2, 3], [4, 5, 6, 7], [8, 9, 10, 11], [12, 13, 14, 15]]), ((4, 4, 2, 2, 0, 0, 1), 2, 3689330049457127424, 76860334127780112, [[0, 1, 2, 3], [4, 5, 6, 7], [8, 9, 10, 11], [12, 13, 14, 15]]), ((4, 4, 2, 2, 0, 1, 0), 2, 1374444519716626464, 149217064064786720, [[0, 2, 9, 11], [4, 6, 13, 15], [1, 3, 8, 10], [5, 7, 12, 14]]), ((4, 4, 2, 2, 0, 1, 1), 2, 1167050298014970384, 4503604190773506, [[0, 6, 8, 14], [1, 7, 9, 15], [2, 4, 10, 12], [3, 5, 11, 13]])]
theorem certs13_ok : certs13.all certOk = true := by decide +kernel
def certs14 : List Cert := [((4, 4, 2, 3, 0, 0, 0), 2, 1229801703532068864, 76860334127780112, [[0, 1, 2, 3], [12, 13, 14, 15], [8, 9, 10, 11], [4, 5, 6, 7]]), ((4, 4, 2, 3, 0, 0, 1), 2, 1229801703532068864, 76860334127780112, [[0, 1, 2, 3], [12, 13, 14, 15], [8, 9, 10, 11], [4, 5, 6, 7]]), ((4, 4, 2, 3, 0, 1, 0), 2, 3544616589650501664, 149217064064786720, [[0, 2, 9, 11], [5, 7, 12, 14], [1, 3, 8, 10], [4, 6, 13, 15]]), ((4, 4, 2, 3, 0, 1, 1), 2, 3463851061575553584, 4503604190773506, [[0, 6, 8, 14], [3, 5, 11, 13], [2, 4, 10, 12], [1, 7, 9, 15]]), ((4, 8, 2, 0, 0, 0, 0), 2, 54036308308950228086104610235286677165624219151829019065256519428071000899584, 482467038383505189261456088630726732101397301619095080046206168533918880016, [[0, 1, 2, 3, 4, 5, 6, 7], [8, 9, 10, 11, 12, 13, 14, 15], [16, 17, 18, 19, 20, 21, 22, 23], [24, 25, 26, 27, 28, 29, 30, 31], [32, 33, 34, 35, 36, 37, 38, 39], [40, 41, 42, 43, 44, 45, 46, 47], [48, 49, 50, 51, 52, 53, 54, 55], [56, 57, 58, 59, 60, 61, 62, 63]])]
theorem certs14_ok : certs14.all certOk = true := by decide +kernel
def certs15 : List Cert := [((4, 8, 2, 0, 0, 0, 1), 2, 54036308308950228086104610235286677165624219151829019065256519428071000899584, 482467038383505189261456088630726732101397301619095080046206168533918880016, [[0, 1, 2, 3, 4, 5, 6, 7], [8, 9, 10, 11, 12, 13, 14, 15], [16, 17, 18, 19, 20, 21, 22, 23], [24, 25, 26, 27, 28, 29, 30, 31], [32, 33, 34, 35, 36, 37, 38, 39], [40, 41, 42, 43, 44, 45, 46, 47], [48, 49, 50, 51, 52, 53, 54, 55], [56, 57, 58, 59, 60, 61, 62, 63]]), ((4, 8, 2, 0, 0, 1, 0), 2, 37583177386879755639572382519123217902769527492825123909074472175778819761184, 1418910274871402849374755432596553124553493442895788013695568739518997672496, [[0, 4, 19, 23, 34, 38, 49, 53], [8, 12, 27, 31, 42, 46, 57, 61], [1, 5, 16, 20, 35, 39, 50, 54], [9, 13, 24, 28, 43, 47, 58, 62], [2, 6, 17, 21, 32, 36, 51, 55], [10, 14, 25, 29, 40, 44, 59, 63], [3, 7, 18, 22, 33, 37, 48, 52], [11, 15, 26, 30, 41, 45, 56, 60]]), ((4, 8, 2, 0, 0, 1, 1), 2, 38082735248720937960661054065170044808592453250600625329799876846047376716304, 28490840279112718409612833295627071750698461961497226443049766082758967555, [[0, 14, 20, 26, 32, 46, 52, 58], [1, 15, 21, 27, 33, 47, 53, 59], [2, 8, 22, 28, 34, 40, 54, 60], [3, 9, 23, 29, 35, 41, 55, 61], [4, 10, 16, 30, 36, 42, 48, 62], [5, 11, 17, 31, 37, 43, 49, 63], [6, 12, 18, 24, 38, 44, 50, 56], [7, 13, 19, 25, 39, 45, 51, 57]]), ((4, 8, 2, 0, 0, 2, 0), 2, 24974764343506163352345617919380692449680207874828564260542898146678161817664, 936553664429447916071942582433924564477424406295614107937428637725021511968, [[0, 2, 4, 6, 33, 35, 37, 39], [8, 10, 12, 14, 41, 43, 45, 47], [16, 18, 20, 22, 49, 51, 53, 55], [24, 26, 28, 30, 57, 59, 61, 63], [1, 3, 5, 7, 32, 34, 36, 38], [9, 11, 13, 15, 40, 42, 44, 46], [17, 19, 21, 23, 48, 50, 52, 54], [25, 27, 29, 31, 56, 58, 60, 62]]), ((4, 8, 2, 0, 0, 2, 1), 2, 22644728665365701356277108096399224174416947808698027917113860822808531317264, 110427941550255958643238468098172025328265018921174288066066739942719490, [[0, 12, 16, 28, 32, 44, 48, 60], [1, 13, 17, 29, 33, 45, 49, 61], [2, 14, 18, 30, 34, 46, 50, 62], [3, 15, 19, 31, 35, 47, 51, 63], [4, 8, 20, 24, 36, 40, 52, 56], [5, 9, 21, 25, 37, 41, 53, 57], [6, 10, 22, 26, 38, 42, 54, 58], [7, 11, 23, 27, 39, 43, 55, 59]])]
theorem certs15_ok : certs15.all certOk = true := by decide +kernel
def certs16 : List Cert := [((4, 8, 2, 0, 0, 3, 0), 2, 8747793296653154447723845482444109090169146277142576059788304616025984345184, 1418910274871402849374755432596553124553493442895788013695568739518997672496, [[0, 4, 17, 21, 34, 38, 51, 55], [8, 12, 25, 29, 42, 46, 59, 63], [3, 7, 16, 20, 33, 37, 50, 54], [11, 15, 24, 28, 41, 45, 58, 62], [2, 6, 19, 23, 32, 36, 49, 53], [10, 14, 27, 31, 40, 44, 57, 61], [1, 5, 18, 22, 35, 39, 48, 52], [9, 13, 26, 30, 43, 47, 56, 60]]), ((4, 8, 2, 0, 0, 3, 1), 2, 7446074630938962079441531628304462396838987231930171813167071109356107084304, 28490840279112718409612833295627071750698461961497226443049766082758967555, [[0, 10, 20, 30, 32, 42, 52, 62], [1, 11, 21, 31, 33, 43, 53, 63], [2, 12, 22, 24, 34, 44, 54, 56], [3, 13, 23, 25, 35, 45, 55, 57], [4, 14, 16, 26, 36, 46, 48, 58], [5, 15, 17, 27, 37, 47, 49, 59], [6, 8, 18, 28, 38, 40, 50, 60], [7, 9, 19, 29, 39, 41, 51, 61]]), ((4, 8, 2, 1, 0, 0, 0), 2, 38597363073713409143185900955465826194097094837890132662276999226203039596544, 482467038383505189261456088630726732101397301619095080046206168533918880016, [[0, 1, 2, 3, 4, 5, 6, 7], [24, 25, 26, 27, 28, 29, 30, 31], [48, 49, 50, 51, 52, 53, 54, 55], [8, 9, 10, 11, 12, 13, 14, 15], [32, 33, 34, 35, 36, 37, 38, 39], [56, 57, 58, 59, 60, 61, 62, 63], [16, 17, 18, 19, 20, 21, 22, 23], [40, 41, 42, 43, 44, 45, 46, 47]]), ((4, 8, 2, 1, 0, 0, 1), 2, 38597363073713409143185900955465826194097094837890132662276999226203039596544, 482467038383505189261456088630726732101397301619095080046206168533918880016, [[0, 1, 2, 3, 4, 5, 6, 7], [24, 25, 26, 27, 28, 29, 30, 31], [48, 49, 50, 51, 52, 53, 54, 55], [8, 9, 10, 11, 12, 13, 14, 15], [32, 33, 34, 35, 36, 37, 38, 39], [56, 57, 58, 59, 60, 61, 62, 63], [16, 17, 18, 19, 20, 21, 22, 23], [40, 41, 42, 43, 44, 45, 46, 47]]), ((4, 8, 2, 1, 0, 1, 0), 2, 22370392027702911424266081173725900292717734391150939342817414838115895370784, 1418910274871402849374755432596553124553493442895788013695568739518997672496, [[0, 4, 17, 21, 34, 38, 51, 55], [11, 15, 24, 28, 41, 45, 58, 62], [1, 5, 18, 22, 35, 39, 48, 52], [8, 12, 25, 29, 42, 46, 59, 63], [2, 6, 19, 23, 32, 36, 49, 53], [9, 13, 26, 30, 43, 47, 56, 60], [3, 7, 16, 20, 33, 37, 50, 54], [10, 14, 27, 31, 40, 44, 57, 61]])]
theorem certs16_ok : certs16.all certOk = true := by decide +kernel
def certs17 : List Cert := [((4, 8, 2, 1, 0, 1, 1), 2, 21856699389340417510964788104923637539326010297493722728737464620530747577904, 28490840279112718409612833295627071750698461961497226443049766082758967555, [[0, 10, 20, 30, 32, 42, 52, 62], [3, 13, 23, 25, 35, 45, 55, 57], [6, 8, 18, 28, 38, 40, 50, 60], [1, 11, 21, 31, 33, 43, 53, 63], [4, 14, 16, 26, 36, 46, 48, 58], [7, 9, 19, 29, 39, 41, 51, 61], [2, 12, 22, 24, 34, 44, 54, 56], [5, 15, 17, 27, 37, 47, 49, 59]]), ((4, 8, 2, 1, 0, 2, 0), 2, 9535819121802180380375194410492715177633599953222352289032503939787953029184, 936553664429447916071942582433924564477424406295614107937428637725021511968, [[0, 2, 4, 6, 33, 35, 37, 39], [24, 26, 28, 30, 57, 59, 61, 63], [17, 19, 21, 23, 48, 50, 52, 54], [8, 10, 12, 14, 41, 43, 45, 47], [1, 3, 5, 7, 32, 34, 36, 38], [25, 27, 29, 31, 56, 58, 60, 62], [16, 18, 20, 22, 49, 51, 53, 55], [9, 11, 13, 15, 40, 42, 44, 46]]), ((4, 8, 2, 1, 0, 2, 1), 2, 10036260407178836411203843683227422331803363162186994724616664909357729977904, 110427941550255958643238468098172025328265018921174288066066739942719490, [[0, 12, 16, 28, 32, 44, 48, 60], [3, 15, 19, 31, 35, 47, 51, 63], [6, 10, 22, 26, 38, 42, 54, 58], [1, 13, 17, 29, 33, 45, 49, 61], [4, 8, 20, 24, 36, 40, 52, 56], [7, 11, 23, 27, 39, 43, 55, 59], [2, 14, 18, 30, 34, 46, 50, 62], [5, 9, 21, 25, 37, 41, 53, 57]]), ((4, 8, 2, 1, 0, 3, 0), 2, 51205776117929512616114618211132916535414611445604660481070011490336214361184, 1418910274871402849374755432596553124553493442895788013695568739518997672496, [[0, 4, 19, 23, 34, 38, 49, 53], [9, 13, 24, 28, 43, 47, 58, 62], [3, 7, 18, 22, 33, 37, 48, 52], [8, 12, 27, 31, 42, 46, 57, 61], [2, 6, 17, 21, 32, 36, 51, 55], [11, 15, 26, 30, 41, 45, 56, 60], [1, 5, 16, 20, 35, 39, 50, 54], [10, 14, 25, 29, 40, 44, 59, 63]]), ((4, 8, 2, 1, 0, 3, 1), 2, 52507494567961047129615092328380622757267136508098972302356029437146672928304, 28490840279112718409612833295627071750698461961497226443049766082758967555, [[0, 14, 20, 26, 32, 46, 52, 58], [3, 9, 23, 29, 35, 41, 55, 61], [6, 12, 18, 24, 38, 44, 50, 56], [1, 15, 21, 27, 33, 47, 53, 59], [4, 10, 16, 30, 36, 42, 48, 62], [7, 13, 19, 25, 39, 45, 51, 57], [2, 8, 22, 28, 34, 40, 54, 60], [5, 11, 17, 31, 37, 43, 49, 63]])]
theorem certs17_ok : certs17.all certOk = true := by decide +kernel
def certs18 : List Cert := [((4, 8, 2, 2, 0, 0, 0), 2, 23158417852855228416051957715834391327646896983784834825433712244681672228864, 482467038383505189261456088630726732101397301619095080046206168533918880016, [[0, 1, 2, 3, 4, 5, 6, 7], [40, 41, 42, 43, 44, 45, 46, 47], [16, 17, 18, 19, 20, 21, 22, 23], [56, 57, 58, 59, 60, 61, 62, 63], [32, 33, 34, 35, 36, 37, 38, 39], [8, 9, 10, 11, 12, 13, 14, 15], [48, 49, 50, 51, 52, 53, 54, 55], [24, 25, 26, 27, 28, 29, 30, 31]]), ((4, 8, 2, 2, 0, 0, 1), 2, 23158417852855228416051957715834391327646896983784834825433712244681672228864, 482467038383505189261456088630726732101397301619095080046206168533918880016, [[0, 1, 2, 3, 4, 5, 6, 7], [40, 41, 42, 43, 44, 45, 46, 47], [16, 17, 18, 19, 20, 21, 22, 23], [56, 57, 58, 59, 60, 61, 62, 63], [32, 33, 34, 35, 36, 37, 38, 39], [8, 9, 10, 11, 12, 13, 14, 15], [48, 49, 50, 51, 52, 53, 54, 55], [24, 25, 26, 27, 28, 29, 30, 31]]), ((4, 8, 2, 2, 0, 1, 0), 2, 10550004808586467993819939737277531578441620819014105188105306692790310167584, 1418910274871402849374755432596553124553493442895788013695568739518997672496, [[0, 4, 19, 23, 34, 38, 49, 53], [10, 14, 25, 29, 40, 44, 59, 63], [1, 5, 16, 20, 35, 39, 50, 54], [11, 15, 26, 30, 41, 45, 56, 60], [2, 6, 17, 21, 32, 36, 51, 55], [8, 12, 27, 31, 42, 46, 57, 61], [3, 7, 18, 22, 33, 37, 48, 52], [9, 13, 24, 28, 43, 47, 58, 62]]), ((4, 8, 2, 2, 0, 1, 1), 2, 9248231144633525095801665023557552833315993486592218566700281337362483802704, 28490840279112718409612833295627071750698461961497226443049766082758967555, [[0, 14, 20, 26, 32, 46, 52, 58], [5, 11, 17, 31, 37, 43, 49, 63], [2, 8, 22, 28, 34, 40, 54, 60], [7, 13, 19, 25, 39, 45, 51, 57], [4, 10, 16, 30, 36, 42, 48, 62], [1, 15, 21, 27, 33, 47, 53, 59], [6, 12, 18, 24, 38, 44, 50, 56], [3, 9, 23, 29, 35, 41, 55, 61]]), ((4, 8, 2, 2, 0, 2, 0), 2, 52219961804766457178862664260073885836130786258396962119210080955551098880064, 936553664429447916071942582433924564477424406295614107937428637725021511968, [[0, 2, 4, 6, 33, 35, 37, 39], [9, 11, 13, 15, 40, 42, 44, 46], [16, 18, 20, 22, 49, 51, 53, 55], [25, 27, 29, 31, 56, 58, 60, 62], [1, 3, 5, 7, 32, 34, 36, 38], [8, 10, 12, 14, 41, 43, 45, 47], [17, 19, 21, 23, 48, 50, 52, 54], [24, 26, 28, 30, 57, 59, 61, 63]])]
theorem certs18_ok : certs18.all certOk = true := by decide +kernel
def certs19 : List Cert := [((4, 8, 2, 2, 0, 2, 1), 2, 51705385742871574023179768477202972783976213755395685341542819478831294083664, 110427941550255958643238468098172025328265018921174288066066739942719490, [[0, 12, 16, 28, 32, 44, 48, 60], [5, 9, 21, 25, 37, 41, 53, 57], [2, 14, 18, 30, 34, 46, 50, 62], [7, 11, 23, 27, 39, 43, 55, 59], [4, 8, 20, 24, 36, 40, 52, 56], [1, 13, 17, 29, 33, 45, 49, 61], [6, 10, 22, 26, 38, 42, 54, 58], [3, 15, 19, 31, 35, 47, 51, 63]]), ((4, 8, 2, 2, 0, 3, 0), 2, 39385388885385547113326792449439867691303744254616340022760132416141652927584, 1418910274871402849374755432596553124553493442895788013695568739518997672496, [[0, 4, 17, 21, 34, 38, 51, 55], [10, 14, 27, 31, 40, 44, 57, 61], [3, 7, 16, 20, 33, 37, 50, 54], [9, 13, 26, 30, 43, 47, 56, 60], [2, 6, 19, 23, 32, 36, 49, 53], [8, 12, 25, 29, 42, 46, 59, 63], [1, 5, 18, 22, 35, 39, 48, 52], [11, 15, 24, 28, 41, 45, 58, 62]]), ((4, 8, 2, 2, 0, 3, 1), 2, 36280578748558797932171831879615419667216110561889677551964521693266545242704, 28490840279112718409612833295627071750698461961497226443049766082758967555, [[0, 10, 20, 30, 32, 42, 52, 62], [5, 15, 17, 27, 37, 47, 49, 59], [2, 12, 22, 24, 34, 44, 54, 56], [7, 9, 19, 29, 39, 41, 51, 61], [4, 14, 16, 26, 36, 46, 48, 58], [1, 11, 21, 31, 33, 43, 53, 63], [6, 8, 18, 28, 38, 40, 50, 60], [3, 13, 23, 25, 35, 45, 55, 57]]), ((4, 8, 2, 3, 0, 0, 0), 2, 7719472617618409473133248436013540356119772669845948422454192042813710925824, 482467038383505189261456088630726732101397301619095080046206168533918880016, [[0, 1, 2, 3, 4, 5, 6, 7], [56, 57, 58, 59, 60, 61, 62, 63], [48, 49, 50, 51, 52, 53, 54, 55], [40, 41, 42, 43, 44, 45, 46, 47], [32, 33, 34, 35, 36, 37, 38, 39], [24, 25, 26, 27, 28, 29, 30, 31], [16, 17, 18, 19, 20, 21, 22, 23], [8, 9, 10, 11, 12, 13, 14, 15]]), ((4, 8, 2, 3, 0, 0, 1), 2, 7719472617618409473133248436013540356119772669845948422454192042813710925824, 482467038383505189261456088630726732101397301619095080046206168533918880016, [[0, 1, 2, 3, 4, 5, 6, 7], [56, 57, 58, 59, 60, 61, 62, 63], [48, 49, 50, 51, 52, 53, 54, 55], [40, 41, 42, 43, 44, 45, 46, 47], [32, 33, 34, 35, 36, 37, 38, 39], [24, 25, 26, 27, 28, 29, 30, 31], [16, 17, 18, 19, 20, 21, 22, 23], [8, 9, 10, 11, 12, 13, 14, 15]])]
theorem certs19_ok : certs19.all certOk = true := by decide +kernel
def certs20 : List Cert := [((4, 8, 2, 3, 0, 1, 0), 2, 53007987616435304089869028140721658893852332368624703305789242638231563953184, 1418910274871402849374755432596553124553493442895788013695568739518997672496, [[0, 4, 17, 21, 34, 38, 51, 55], [9, 13, 26, 30, 43, 47, 56, 60], [1, 5, 18, 22, 35, 39, 48, 52], [10, 14, 27, 31, 40, 44, 57, 61], [2, 6, 19, 23, 32, 36, 49, 53], [11, 15, 24, 28, 41, 45, 58, 62], [3, 7, 16, 20, 33, 37, 50, 54], [8, 12, 25, 29, 42, 46, 59, 63]]), ((4, 8, 2, 3, 0, 1, 1), 2, 50691203506960253363695088356234594809703133627453228467534915204441185736304, 28490840279112718409612833295627071750698461961497226443049766082758967555, [[0, 10, 20, 30, 32, 42, 52, 62], [7, 9, 19, 29, 39, 41, 51, 61], [6, 8, 18, 28, 38, 40, 50, 60], [5, 15, 17, 27, 37, 47, 49, 59], [4, 14, 16, 26, 36, 46, 48, 58], [3, 13, 23, 25, 35, 45, 55, 57], [2, 12, 22, 24, 34, 44, 54, 56], [1, 11, 21, 31, 33, 43, 53, 63]]), ((4, 8, 2, 3, 0, 2, 0), 2, 36781016583062474206892240751185908564084178336790750147699686748660890091584, 936553664429447916071942582433924564477424406295614107937428637725021511968, [[0, 2, 4, 6, 33, 35, 37, 39], [25, 27, 29, 31, 56, 58, 60, 62], [17, 19, 21, 23, 48, 50, 52, 54], [9, 11, 13, 15, 40, 42, 44, 46], [1, 3, 5, 7, 32, 34, 36, 38], [24, 26, 28, 30, 57, 59, 61, 63], [16, 18, 20, 22, 49, 51, 53, 55], [8, 10, 12, 14, 41, 43, 45, 47]]), ((4, 8, 2, 3, 0, 2, 1), 2, 39096917484684709078106504064031170941362629108884652149045623565380492744304, 110427941550255958643238468098172025328265018921174288066066739942719490, [[0, 12, 16, 28, 32, 44, 48, 60], [7, 11, 23, 27, 39, 43, 55, 59], [6, 10, 22, 26, 38, 42, 54, 58], [5, 9, 21, 25, 37, 41, 53, 57], [4, 8, 20, 24, 36, 40, 52, 56], [3, 15, 19, 31, 35, 47, 51, 63], [2, 14, 18, 30, 34, 46, 50, 62], [1, 13, 17, 29, 33, 45, 49, 61]]), ((4, 8, 2, 3, 0, 3, 0), 2, 24172603539636224970362175429287230211086704771793641760100846007347704767584, 1418910274871402849374755432596553124553493442895788013695568739518997672496, [[0, 4, 19, 23, 34, 38, 49, 53], [11, 15, 26, 30, 41, 45, 56, 60], [3, 7, 18, 22, 33, 37, 48, 52], [10, 14, 25, 29, 40, 44, 59, 63], [2, 6, 17, 21, 32, 36, 51, 55], [9, 13, 24, 28, 43, 47, 58, 62], [1, 5, 16, 20, 35, 39, 50, 54], [8, 12, 27, 31, 42, 46, 57, 61]])]
theorem certs20_ok : certs20.all certOk = true := by decide +kernel
def certs21 : List Cert := [((4, 8, 2, 3, 0, 3, 1), 2, 23672990463873634264755703286768130781990676744090565539256433928461780014704, 28490840279112718409612833295627071750698461961497226443049766082758967555, [[0, 14, 20, 26, 32, 46, 52, 58], [7, 13, 19, 25, 39, 45, 51, 57], [6, 12, 18, 24, 38, 44, 50, 56], [5, 11, 17, 31, 37, 43, 49, 63], [4, 10, 16, 30, 36, 42, 48, 62], [3, 9, 23, 29, 35, 41, 55, 61], [2, 8, 22, 28, 34, 40, 54, 60], [1, 15, 21, 27, 33, 47, 53, 59]]), ((4, 9, 2, 0, 0, 0, 0), 2, 18227089373158611154009716982797990056432914316353721106797724098808504709811527551544085786394624, 142399135726118003267440617826652565742089155025848591059607149028970553543627677218219903488272, [[0, 1, 2, 3, 4, 5, 6, 7, 8], [9, 10, 11, 12, 13, 14, 15, 16, 17], [18, 19, 20, 21, 22, 23, 24, 25, 26], [27, 28, 29, 30, 31, 32, 33, 34, 35], [36, 37, 38, 39, 40, 41, 42, 43, 44], [45, 46, 47, 48, 49, 50, 51, 52, 53], [54, 55, 56, 57, 58, 59, 60, 61, 62], [63, 64, 65, 66, 67, 68, 69, 70, 71], [72, 73, 74, 75, 76, 77, 78, 79, 80]]), ((4, 9, 2, 0, 0, 0, 1), 2, 18227089373158611154009716982797990056432914316353721106797724098808504709811527551544085786394624, 142399135726118003267440617826652565742089155025848591059607149028970553543627677218219903488272, [[0, 1, 2, 3, 4, 5, 6, 7, 8], [9, 10, 11, 12, 13, 14, 15, 16, 17], [18, 19, 20, 21, 22, 23, 24, 25, 26], [27, 28, 29, 30, 31, 32, 33, 34, 35], [36, 37, 38, 39, 40, 41, 42, 43, 44], [45, 46, 47, 48, 49, 50, 51, 52, 53], [54, 55, 56, 57, 58, 59, 60, 61, 62], [63, 64, 65, 66, 67, 68, 69, 70, 71], [72, 73, 74, 75, 76, 77, 78, 79, 80]]), ((4, 9, 2, 0, 0, 1, 0), 2, 11016372698049780634100368981311329917898656185749695858555497789347107684007175388922103906633264, 284276662927545382791226516063293113733788084261474113301694831095449545402388789688107809247776, [[0, 3, 6, 29, 32, 35, 55, 58, 61], [9, 12, 15, 38, 41, 44, 64, 67, 70], [18, 21, 24, 47, 50, 53, 73, 76, 79], [1, 4, 7, 27, 30, 33, 56, 59, 62], [10, 13, 16, 36, 39, 42, 65, 68, 71], [19, 22, 25, 45, 48, 51, 74, 77, 80], [2, 5, 8, 28, 31, 34, 54, 57, 60], [11, 14, 17, 37, 40, 43, 63, 66, 69], [20, 23, 26, 46, 49, 52, 72, 75, 78]]), ((4, 9, 2, 0, 0, 1, 1), 2, 11240039668923783059299184144617469788689959461398792607448992919476045983571345057854263131386384, 521608524690623743654719590012017750390225790223068817519466962491561684866564748331997728770, [[0, 15, 21, 27, 42, 48, 54, 69, 75], [1, 16, 22, 28, 43, 49, 55, 70, 76], [2, 17, 23, 29, 44, 50, 56, 71, 77], [3, 9, 24, 30, 36, 51, 57, 63, 78], [4, 10, 25, 31, 37, 52, 58, 64, 79], [5, 11, 26, 32, 38, 53, 59, 65, 80], [6, 12, 18, 33, 39, 45, 60, 66, 72], [7, 13, 19, 34, 40, 46, 61, 67, 73], [8, 14, 20, 35, 41, 47, 62, 68, 74]])]
theorem certs21_ok : certs21.all certOk = true := by decide +kernel
def certs22 : List Cert := [((4, 9, 2, 0, 0, 2, 0), 2, 5007442135459088534175912313405832265719620284888799055905895202123878745426194758876723947111264, 284276662927545382791226516063293113733788084261474113301694831095449545402388789688107809247776, [[0, 3, 6, 28, 31, 34, 56, 59, 62], [9, 12, 15, 37, 40, 43, 65, 68, 71], [18, 21, 24, 46, 49, 52, 74, 77, 80], [2, 5, 8, 27, 30, 33, 55, 58, 61], [11, 14, 17, 36, 39, 42, 64, 67, 70], [20, 23, 26, 45, 48, 51, 73, 76, 79], [1, 4, 7, 29, 32, 35, 54, 57, 60], [10, 13, 16, 38, 41, 44, 63, 66, 69], [19, 22, 25, 47, 50, 53, 72, 75, 78]]), ((4, 9, 2, 0, 0, 2, 1), 2, 4409886151569581090213749953689598401122445426985297916314616576033164652727870488718098562298384, 521608524690623743654719590012017750390225790223068817519466962491561684866564748331997728770, [[0, 12, 24, 27, 39, 51, 54, 66, 78], [1, 13, 25, 28, 40, 52, 55, 67, 79], [2, 14, 26, 29, 41, 53, 56, 68, 80], [3, 15, 18, 30, 42, 45, 57, 69, 72], [4, 16, 19, 31, 43, 46, 58, 70, 73], [5, 17, 20, 32, 44, 47, 59, 71, 74], [6, 9, 21, 33, 36, 48, 60, 63, 75], [7, 10, 22, 34, 37, 49, 61, 64, 76], [8, 11, 23, 35, 38, 50, 62, 65, 77]]), ((4, 9, 2, 0, 1, 0, 0), 2, 11391930858112234243066584996855258682502151852978434968793910729581979680295708232228698706673664, 142399135726118003267440617826652565742089155025848591059607149028970553543627677218219903488272, [[0, 1, 2, 3, 4, 5, 6, 7, 8], [63, 64, 65, 66, 67, 68, 69, 70, 71], [45, 46, 47, 48, 49, 50, 51, 52, 53], [27, 28, 29, 30, 31, 32, 33, 34, 35], [9, 10, 11, 12, 13, 14, 15, 16, 17], [72, 73, 74, 75, 76, 77, 78, 79, 80], [54, 55, 56, 57, 58, 59, 60, 61, 62], [36, 37, 38, 39, 40, 41, 42, 43, 44], [18, 19, 20, 21, 22, 23, 24, 25, 26]]), ((4, 9, 2, 0, 1, 0, 1), 2, 11391930858112234243066584996855258682502151852978434968793910729581979680295708232228698706673664, 142399135726118003267440617826652565742089155025848591059607149028970553543627677218219903488272, [[0, 1, 2, 3, 4, 5, 6, 7, 8], [63, 64, 65, 66, 67, 68, 69, 70, 71], [45, 46, 47, 48, 49, 50, 51, 52, 53], [27, 28, 29, 30, 31, 32, 33, 34, 35], [9, 10, 11, 12, 13, 14, 15, 16, 17], [72, 73, 74, 75, 76, 77, 78, 79, 80], [54, 55, 56, 57, 58, 59, 60, 61, 62], [36, 37, 38, 39, 40, 41, 42, 43, 44], [18, 19, 20, 21, 22, 23, 24, 25, 26]]), ((4, 9, 2, 0, 1, 1, 0), 2, 5383000295801354777249681988015138723063156403352167393358690017431427301141249717803400426620464, 284276662927545382791226516063293113733788084261474113301694831095449545402388789688107809247776, [[0, 3, 6, 29, 32, 35, 55, 58, 61], [11, 14, 17, 37, 40, 43, 63, 66, 69], [19, 22, 25, 45, 48, 51, 74, 77, 80], [1, 4, 7, 27, 30, 33, 56, 59, 62], [9, 12, 15, 38, 41, 44, 64, 67, 70], [20, 23, 26, 46, 49, 52, 72, 75, 78], [2, 5, 8, 28, 31, 34, 54, 57, 60], [10, 13, 16, 36, 39, 42, 65, 68, 71], [18, 21, 24, 47, 50, 53, 73, 76, 79]])]
theorem certs22_ok : certs22.all certOk = true := by decide +kernel
def certs23 : List Cert := [((4, 9, 2, 0, 1, 1, 1), 2, 5235802365887759624228886421256453928496038537980480276985346388880882494993817309152361612523584, 521608524690623743654719590012017750390225790223068817519466962491561684866564748331997728770, [[0, 15, 21, 27, 42, 48, 54, 69, 75], [7, 13, 19, 34, 40, 46, 61, 67, 73], [5, 11, 26, 32, 38, 53, 59, 65, 80], [3, 9, 24, 30, 36, 51, 57, 63, 78], [1, 16, 22, 28, 43, 49, 55, 70, 76], [8, 14, 20, 35, 41, 47, 62, 68, 74], [6, 12, 18, 33, 39, 45, 60, 66, 72], [4, 10, 25, 31, 37, 52, 58, 64, 79], [2, 17, 23, 29, 44, 50, 56, 71, 77]]), ((4, 9, 2, 0, 1, 2, 0), 2, 17400861420720414632618707864227801742464665360734412712535045866681177289351721954593063000474464, 284276662927545382791226516063293113733788084261474113301694831095449545402388789688107809247776, [[0, 3, 6, 28, 31, 34, 56, 59, 62], [10, 13, 16, 38, 41, 44, 63, 66, 69], [20, 23, 26, 45, 48, 51, 73, 76, 79], [2, 5, 8, 27, 30, 33, 55, 58, 61], [9, 12, 15, 37, 40, 43, 65, 68, 71], [19, 22, 25, 47, 50, 53, 72, 75, 78], [1, 4, 7, 29, 32, 35, 54, 57, 60], [11, 14, 17, 36, 39, 42, 64, 67, 70], [18, 21, 24, 46, 49, 52, 74, 77, 80]]), ((4, 9, 2, 0, 1, 2, 1), 2, 17624545579086555861758925067048057704013478054331423571966070633612987138118150423504280126699584, 521608524690623743654719590012017750390225790223068817519466962491561684866564748331997728770, [[0, 12, 24, 27, 39, 51, 54, 66, 78], [7, 10, 22, 34, 37, 49, 61, 64, 76], [5, 17, 20, 32, 44, 47, 59, 71, 74], [3, 15, 18, 30, 42, 45, 57, 69, 72], [1, 13, 25, 28, 40, 52, 55, 67, 79], [8, 11, 23, 35, 38, 50, 62, 65, 77], [6, 9, 21, 33, 36, 48, 60, 63, 75], [4, 16, 19, 31, 43, 46, 58, 70, 73], [2, 14, 26, 29, 41, 53, 56, 68, 80]]), ((4, 9, 2, 0, 2, 0, 0), 2, 4556772343364251273964982792859420487506097277042966449854435657561393025179733286109185954545664, 142399135726118003267440617826652565742089155025848591059607149028970553543627677218219903488272, [[0, 1, 2, 3, 4, 5, 6, 7, 8], [36, 37, 38, 39, 40, 41, 42, 43, 44], [72, 73, 74, 75, 76, 77, 78, 79, 80], [27, 28, 29, 30, 31, 32, 33, 34, 35], [63, 64, 65, 66, 67, 68, 69, 70, 71], [18, 19, 20, 21, 22, 23, 24, 25, 26], [54, 55, 56, 57, 58, 59, 60, 61, 62], [9, 10, 11, 12, 13, 14, 15, 16, 17], [45, 46, 47, 48, 49, 50, 51, 52, 53]]), ((4, 9, 2, 0, 2, 0, 1), 2, 4556772343364251273964982792859420487506097277042966449854435657561393025179733286109185954545664, 142399135726118003267440617826652565742089155025848591059607149028970553543627677218219903488272, [[0, 1, 2, 3, 4, 5, 6, 7, 8], [36, 37, 38, 39, 40, 41, 42, 43, 44], [72, 73, 74, 75, 76, 77, 78, 79, 80], [27, 28, 29, 30, 31, 32, 33, 34, 35], [63, 64, 65, 66, 67, 68, 69, 70, 71], [18, 19, 20, 21, 22, 23, 24, 25, 26], [54, 55, 56, 57, 58, 59, 60, 61, 62], [9, 10, 11, 12, 13, 14, 15, 16, 17], [45, 46, 47, 48, 49, 50, 51, 52, 53]])]
theorem certs23_ok : certs23.all certOk = true := by decide +kernel
def certs24 : List Cert := [((4, 9, 2, 0, 2, 1, 0), 2, 17776419580783961259686653017238417373220837157799880400341630349043806629136819019473577702524464, 284276662927545382791226516063293113733788084261474113301694831095449545402388789688107809247776, [[0, 3, 6, 29, 32, 35, 55, 58, 61], [10, 13, 16, 36, 39, 42, 65, 68, 71], [20, 23, 26, 46, 49, 52, 72, 75, 78], [1, 4, 7, 27, 30, 33, 56, 59, 62], [11, 14, 17, 37, 40, 43, 63, 66, 69], [18, 21, 24, 47, 50, 53, 73, 76, 79], [2, 5, 8, 28, 31, 34, 54, 57, 60], [9, 12, 15, 38, 41, 44, 64, 67, 70], [19, 22, 25, 45, 48, 51, 74, 77, 80]]), ((4, 9, 2, 0, 2, 1, 1), 2, 17249262418879746360144358377929995428623665577216001307238523349267976834720543799682101168649584, 521608524690623743654719590012017750390225790223068817519466962491561684866564748331997728770, [[0, 15, 21, 27, 42, 48, 54, 69, 75], [4, 10, 25, 31, 37, 52, 58, 64, 79], [8, 14, 20, 35, 41, 47, 62, 68, 74], [3, 9, 24, 30, 36, 51, 57, 63, 78], [7, 13, 19, 34, 40, 46, 61, 67, 73], [2, 17, 23, 29, 44, 50, 56, 71, 77], [6, 12, 18, 33, 39, 45, 60, 66, 72], [1, 16, 22, 28, 43, 49, 55, 70, 76], [5, 11, 26, 32, 38, 53, 59, 65, 80]]), ((4, 9, 2, 0, 2, 2, 0), 2, 11767489018455593504238266487308099329116269351717382856151586375528718829053270731502623611290464, 284276662927545382791226516063293113733788084261474113301694831095449545402388789688107809247776, [[0, 3, 6, 28, 31, 34, 56, 59, 62], [11, 14, 17, 36, 39, 42, 64, 67, 70], [19, 22, 25, 47, 50, 53, 72, 75, 78], [2, 5, 8, 27, 30, 33, 55, 58, 61], [10, 13, 16, 38, 41, 44, 63, 66, 69], [18, 21, 24, 46, 49, 52, 74, 77, 80], [1, 4, 7, 29, 32, 35, 54, 57, 60], [9, 12, 15, 37, 40, 43, 65, 68, 71], [20, 23, 26, 45, 48, 51, 73, 76, 79]]), ((4, 9, 2, 0, 2, 2, 1), 2, 11615616090976314707424089811078044673777393787208074739753336147501359222100745973486828931593584, 521608524690623743654719590012017750390225790223068817519466962491561684866564748331997728770, [[0, 12, 24, 27, 39, 51, 54, 66, 78], [4, 16, 19, 31, 43, 46, 58, 70, 73], [8, 11, 23, 35, 38, 50, 62, 65, 77], [3, 15, 18, 30, 42, 45, 57, 69, 72], [7, 10, 22, 34, 37, 49, 61, 64, 76], [2, 14, 26, 29, 41, 53, 56, 68, 80], [6, 9, 21, 33, 36, 48, 60, 63, 75], [1, 13, 25, 28, 40, 52, 55, 67, 79], [5, 17, 20, 32, 44, 47, 59, 71, 74]]), ((4, 9, 2, 1, 0, 0, 0), 2, 15948703201476485517027225586368279812679866137580900141637163777531916342314415994111208848359424, 142399135726118003267440617826652565742089155025848591059607149028970553543627677218219903488272, [[0, 1, 2, 3, 4, 5, 6, 7, 8], [45, 46, 47, 48, 49, 50, 51, 52, 53], [9, 10, 11, 12, 13, 14, 15, 16, 17], [54, 55, 56, 57, 58, 59, 60, 61, 62], [18, 19, 20, 21, 22, 23, 24, 25, 26], [63, 64, 65, 66, 67, 68, 69, 70, 71], [27, 28, 29, 30, 31, 32, 33, 34, 35], [72, 73, 74, 75, 76, 77, 78, 79, 80], [36, 37, 38, 39, 40, 41, 42, 43, 44]])]
theorem certs24_ok : certs24.all certOk = true := by decide +kernel
def certs25 : List Cert := [((4, 9, 2, 1, 0, 0, 1), 2, 15948703201476485517027225586368279812679866137580900141637163777531916342314415994111208848359424, 142399135726118003267440617826652565742089155025848591059607149028970553543627677218219903488272, [[0, 1, 2, 3, 4, 5, 6, 7, 8], [45, 46, 47, 48, 49, 50, 51, 52, 53], [9, 10, 11, 12, 13, 14, 15, 16, 17], [54, 55, 56, 57, 58, 59, 60, 61, 62], [18, 19, 20, 21, 22, 23, 24, 25, 26], [63, 64, 65, 66, 67, 68, 69, 70, 71], [27, 28, 29, 30, 31, 32, 33, 34, 35], [72, 73, 74, 75, 76, 77, 78, 79, 80], [36, 37, 38, 39, 40, 41, 42, 43, 44]]), ((4, 9, 2, 1, 0, 1, 0), 2, 8737986526385143286749870082188238115728792996707924746620502678695855845504075371782672065168944, 284276662927545382791226516063293113733788084261474113301694831095449545402388789688107809247776, [[0, 3, 6, 28, 31, 34, 56, 59, 62], [20, 23, 26, 45, 48, 51, 73, 76, 79], [9, 12, 15, 37, 40, 43, 65, 68, 71], [1, 4, 7, 29, 32, 35, 54, 57, 60], [18, 21, 24, 46, 49, 52, 74, 77, 80], [10, 13, 16, 38, 41, 44, 63, 66, 69], [2, 5, 8, 27, 30, 33, 55, 58, 61], [19, 22, 25, 47, 50, 53, 72, 75, 78], [11, 14, 17, 36, 39, 42, 64, 67, 70]]), ((4, 9, 2, 1, 0, 1, 1), 2, 8814766159632827321698944983514670011947923448559048048898074969599936258085946229622977236329504, 521608524690623743654719590012017750390225790223068817519466962491561684866564748331997728770, [[0, 12, 24, 27, 39, 51, 54, 66, 78], [5, 17, 20, 32, 44, 47, 59, 71, 74], [1, 13, 25, 28, 40, 52, 55, 67, 79], [6, 9, 21, 33, 36, 48, 60, 63, 75], [2, 14, 26, 29, 41, 53, 56, 68, 80], [7, 10, 22, 34, 37, 49, 61, 64, 76], [3, 15, 18, 30, 42, 45, 57, 69, 72], [8, 11, 23, 35, 38, 50, 62, 65, 77], [4, 16, 19, 31, 43, 46, 58, 70, 73]]), ((4, 9, 2, 1, 0, 2, 0), 2, 2729055964056775531305300873881072748506319940186576241856779850887939413656012272747472580117344, 284276662927545382791226516063293113733788084261474113301694831095449545402388789688107809247776, [[0, 3, 6, 29, 32, 35, 55, 58, 61], [19, 22, 25, 45, 48, 51, 74, 77, 80], [9, 12, 15, 38, 41, 44, 64, 67, 70], [2, 5, 8, 28, 31, 34, 54, 57, 60], [18, 21, 24, 47, 50, 53, 73, 76, 79], [11, 14, 17, 37, 40, 43, 63, 66, 69], [1, 4, 7, 27, 30, 33, 56, 59, 62], [20, 23, 26, 46, 49, 52, 72, 75, 78], [10, 13, 16, 36, 39, 42, 65, 68, 71]]), ((4, 9, 2, 1, 0, 2, 1), 2, 3256194792636110669221196612683169179154749211141274775445778066918888133668418316710270792655904, 521608524690623743654719590012017750390225790223068817519466962491561684866564748331997728770, [[0, 15, 21, 27, 42, 48, 54, 69, 75], [5, 11, 26, 32, 38, 53, 59, 65, 80], [1, 16, 22, 28, 43, 49, 55, 70, 76], [6, 12, 18, 33, 39, 45, 60, 66, 72], [2, 17, 23, 29, 44, 50, 56, 71, 77], [7, 13, 19, 34, 40, 46, 61, 67, 73], [3, 9, 24, 30, 36, 51, 57, 63, 78], [8, 14, 20, 35, 41, 47, 62, 68, 74], [4, 10, 25, 31, 37, 52, 58, 64, 79]])]
theorem certs25_ok : certs25.all certOk = true := by decide +kernel
def certs26 : List Cert := [((4, 9, 2, 1, 1, 0, 0), 2, 9113544686728502547925623382372441617683811561645431622697688705511329687198441047991696096231424, 142399135726118003267440617826652565742089155025848591059607149028970553543627677218219903488272, [[0, 1, 2, 3, 4, 5, 6, 7, 8], [18, 19, 20, 21, 22, 23, 24, 25, 26], [36, 37, 38, 39, 40, 41, 42, 43, 44], [54, 55, 56, 57, 58, 59, 60, 61, 62], [72, 73, 74, 75, 76, 77, 78, 79, 80], [9, 10, 11, 12, 13, 14, 15, 16, 17], [27, 28, 29, 30, 31, 32, 33, 34, 35], [45, 46, 47, 48, 49, 50, 51, 52, 53], [63, 64, 65, 66, 67, 68, 69, 70, 71]]), ((4, 9, 2, 1, 1, 0, 1), 2, 9113544686728502547925623382372441617683811561645431622697688705511329687198441047991696096231424, 142399135726118003267440617826652565742089155025848591059607149028970553543627677218219903488272, [[0, 1, 2, 3, 4, 5, 6, 7, 8], [18, 19, 20, 21, 22, 23, 24, 25, 26], [36, 37, 38, 39, 40, 41, 42, 43, 44], [54, 55, 56, 57, 58, 59, 60, 61, 62], [72, 73, 74, 75, 76, 77, 78, 79, 80], [9, 10, 11, 12, 13, 14, 15, 16, 17], [27, 28, 29, 30, 31, 32, 33, 34, 35], [45, 46, 47, 48, 49, 50, 51, 52, 53], [63, 64, 65, 66, 67, 68, 69, 70, 71]]), ((4, 9, 2, 1, 1, 1, 0), 2, 3104614124120322158369428705268535702380396987690894890237043187543397385205624148692232675984944, 284276662927545382791226516063293113733788084261474113301694831095449545402388789688107809247776, [[0, 3, 6, 28, 31, 34, 56, 59, 62], [18, 21, 24, 46, 49, 52, 74, 77, 80], [11, 14, 17, 36, 39, 42, 64, 67, 70], [1, 4, 7, 29, 32, 35, 54, 57, 60], [19, 22, 25, 47, 50, 53, 72, 75, 78], [9, 12, 15, 37, 40, 43, 65, 68, 71], [2, 5, 8, 27, 30, 33, 55, 58, 61], [20, 23, 26, 45, 48, 51, 73, 76, 79], [10, 13, 16, 38, 41, 44, 63, 66, 69]]), ((4, 9, 2, 1, 1, 1, 1), 2, 2805836671522586167364109727544656981711839181435699216685340483488308342068541779605526041223504, 521608524690623743654719590012017750390225790223068817519466962491561684866564748331997728770, [[0, 12, 24, 27, 39, 51, 54, 66, 78], [2, 14, 26, 29, 41, 53, 56, 68, 80], [4, 16, 19, 31, 43, 46, 58, 70, 73], [6, 9, 21, 33, 36, 48, 60, 63, 75], [8, 11, 23, 35, 38, 50, 62, 65, 77], [1, 13, 25, 28, 40, 52, 55, 67, 79], [3, 15, 18, 30, 42, 45, 57, 69, 72], [5, 17, 20, 32, 44, 47, 59, 71, 74], [7, 10, 22, 34, 37, 49, 61, 64, 76]]), ((4, 9, 2, 1, 1, 2, 0), 2, 15122475249039382013742271903104351398664000694634289248839720182500318741651581574417649856021344, 284276662927545382791226516063293113733788084261474113301694831095449545402388789688107809247776, [[0, 3, 6, 29, 32, 35, 55, 58, 61], [18, 21, 24, 47, 50, 53, 73, 76, 79], [10, 13, 16, 36, 39, 42, 65, 68, 71], [2, 5, 8, 28, 31, 34, 54, 57, 60], [20, 23, 26, 46, 49, 52, 72, 75, 78], [9, 12, 15, 38, 41, 44, 64, 67, 70], [1, 4, 7, 27, 30, 33, 56, 59, 62], [19, 22, 25, 45, 48, 51, 74, 77, 80], [11, 14, 17, 37, 40, 43, 63, 66, 69]])]
theorem certs26_ok : certs26.all certOk = true := by decide +kernel
def certs27 : List Cert := [((4, 9, 2, 1, 1, 2, 1), 2, 15269654845628097405136668569356710679282376250376795805698955027305982473395144807240010348781904, 521608524690623743654719590012017750390225790223068817519466962491561684866564748331997728770, [[0, 15, 21, 27, 42, 48, 54, 69, 75], [2, 17, 23, 29, 44, 50, 56, 71, 77], [4, 10, 25, 31, 37, 52, 58, 64, 79], [6, 12, 18, 33, 39, 45, 60, 66, 72], [8, 14, 20, 35, 41, 47, 62, 68, 74], [1, 16, 22, 28, 43, 49, 55, 70, 76], [3, 9, 24, 30, 36, 51, 57, 63, 78], [5, 11, 26, 32, 38, 53, 59, 65, 80], [7, 13, 19, 34, 40, 46, 61, 67, 73]]), ((4, 9, 2, 1, 2, 0, 0), 2, 2278386171682125636982491396429710243753049098270145484693875336284804657682621728676309016510464, 142399135726118003267440617826652565742089155025848591059607149028970553543627677218219903488272, [[0, 1, 2, 3, 4, 5, 6, 7, 8], [72, 73, 74, 75, 76, 77, 78, 79, 80], [63, 64, 65, 66, 67, 68, 69, 70, 71], [54, 55, 56, 57, 58, 59, 60, 61, 62], [45, 46, 47, 48, 49, 50, 51, 52, 53], [36, 37, 38, 39, 40, 41, 42, 43, 44], [27, 28, 29, 30, 31, 32, 33, 34, 35], [18, 19, 20, 21, 22, 23, 24, 25, 26], [9, 10, 11, 12, 13, 14, 15, 16, 17]]), ((4, 9, 2, 1, 2, 0, 1), 2, 2278386171682125636982491396429710243753049098270145484693875336284804657682621728676309016510464, 142399135726118003267440617826652565742089155025848591059607149028970553543627677218219903488272, [[0, 1, 2, 3, 4, 5, 6, 7, 8], [72, 73, 74, 75, 76, 77, 78, 79, 80], [63, 64, 65, 66, 67, 68, 69, 70, 71], [54, 55, 56, 57, 58, 59, 60, 61, 62], [45, 46, 47, 48, 49, 50, 51, 52, 53], [36, 37, 38, 39, 40, 41, 42, 43, 44], [27, 28, 29, 30, 31, 32, 33, 34, 35], [18, 19, 20, 21, 22, 23, 24, 25, 26], [9, 10, 11, 12, 13, 14, 15, 16, 17]]), ((4, 9, 2, 1, 2, 1, 0), 2, 15498033409381648256812224256090505179125442063536508546866193852100695929131151344408571729348144, 284276662927545382791226516063293113733788084261474113301694831095449545402388789688107809247776, [[0, 3, 6, 28, 31, 34, 56, 59, 62], [19, 22, 25, 47, 50, 53, 72, 75, 78], [10, 13, 16, 38, 41, 44, 63, 66, 69], [1, 4, 7, 29, 32, 35, 54, 57, 60], [20, 23, 26, 45, 48, 51, 73, 76, 79], [11, 14, 17, 36, 39, 42, 64, 67, 70], [2, 5, 8, 27, 30, 33, 55, 58, 61], [18, 21, 24, 46, 49, 52, 74, 77, 80], [9, 12, 15, 37, 40, 43, 65, 68, 71]]), ((4, 9, 2, 1, 2, 1, 1), 2, 16020496099039560938909284840903116284602871808781824872336794541068130827458821714391707605624704, 521608524690623743654719590012017750390225790223068817519466962491561684866564748331997728770, [[0, 12, 24, 27, 39, 51, 54, 66, 78], [8, 11, 23, 35, 38, 50, 62, 65, 77], [7, 10, 22, 34, 37, 49, 61, 64, 76], [6, 9, 21, 33, 36, 48, 60, 63, 75], [5, 17, 20, 32, 44, 47, 59, 71, 74], [4, 16, 19, 31, 43, 46, 58, 70, 73], [3, 15, 18, 30, 42, 45, 57, 69, 72], [2, 14, 26, 29, 41, 53, 56, 68, 80], [1, 13, 25, 28, 40, 52, 55, 67, 79]])]
theorem certs27_ok : certs27.all certOk = true := by decide +kernel
def certs28 : List Cert := [((4, 9, 2, 1, 2, 2, 0), 2, 9489102846790956156891584909808160203828500912236760783642912410584638358785655903298946376008544, 284276662927545382791226516063293113733788084261474113301694831095449545402388789688107809247776, [[0, 3, 6, 29, 32, 35, 55, 58, 61], [20, 23, 26, 46, 49, 52, 72, 75, 78], [11, 14, 17, 37, 40, 43, 63, 66, 69], [2, 5, 8, 28, 31, 34, 54, 57, 60], [19, 22, 25, 45, 48, 51, 74, 77, 80], [10, 13, 16, 36, 39, 42, 65, 68, 71], [1, 4, 7, 27, 30, 33, 56, 59, 62], [18, 21, 24, 47, 50, 53, 73, 76, 79], [9, 12, 15, 38, 41, 44, 64, 67, 70]]), ((4, 9, 2, 1, 2, 2, 1), 2, 9265417542592073970066370845995694819088455326958483475235308496710818984817617058538108829919104, 521608524690623743654719590012017750390225790223068817519466962491561684866564748331997728770, [[0, 15, 21, 27, 42, 48, 54, 69, 75], [8, 14, 20, 35, 41, 47, 62, 68, 74], [7, 13, 19, 34, 40, 46, 61, 67, 73], [6, 12, 18, 33, 39, 45, 60, 66, 72], [5, 11, 26, 32, 38, 53, 59, 65, 80], [4, 10, 25, 31, 37, 52, 58, 64, 79], [3, 9, 24, 30, 36, 51, 57, 63, 78], [2, 17, 23, 29, 44, 50, 56, 71, 77], [1, 16, 22, 28, 43, 49, 55, 70, 76]]), ((5, 8, 2, 0, 0, 0, 0), 2, 8747793296653154446160676178690227499259759305927204118279689122059651146784, 1418910274871402849374755432596553124553493442895788013695568739518997672496, [[0, 4, 17, 21, 34, 38, 51, 55], [8, 12, 25, 29, 42, 46, 59, 63], [1, 5, 16, 20, 35, 39, 50, 54], [9, 13, 24, 28, 43, 47, 58, 62], [2, 6, 19, 23, 32, 36, 49, 53], [10, 14, 27, 31, 40, 44, 57, 61], [3, 7, 18, 22, 33, 37, 48, 52], [11, 15, 26, 30, 41, 45, 56, 60]]), ((5, 8, 2, 0, 0, 0, 1), 2, 7325930863810405311279886442277538544243875600484405328788118929996533477904, 28490840279112718409612833295627071750698461961497226443049766082758967555, [[0, 10, 20, 30, 32, 42, 52, 62], [1, 11, 21, 31, 33, 43, 53, 63], [2, 8, 22, 28, 34, 40, 54, 60], [3, 9, 23, 29, 35, 41, 55, 61], [4, 14, 16, 26, 36, 46, 48, 58], [5, 15, 17, 27, 37, 47, 49, 59], [6, 12, 18, 24, 38, 44, 50, 56], [7, 13, 19, 25, 39, 45, 51, 57]]), ((6, 5, 2, 0, 0, 0, 0), 2, 338040003907938002925654118400, 15845618021000462739266806032, [[0, 1, 2, 4, 8], [3, 5, 6, 7, 9], [10, 11, 12, 13, 19], [14, 15, 16, 17, 18], [20, 21, 22, 23, 24]])]
theorem certs28_ok : certs28.all certOk = true := by decide +kernel
def certs29 : List Cert := [((6, 5, 2, 0, 0, 0, 1), 2, 327764285204223667981370274320, 295152408778982293539, [[0, 5, 10, 16, 20], [1, 6, 11, 15, 21], [2, 7, 12, 17, 23], [3, 8, 13, 18, 22], [4, 9, 14, 19, 24]]), ((6, 6, 2, 0, 0, 0, 0), 2, 7433581478074841524952333631672514965934080, 278759299036964714470805052881841740128528, [[0, 1, 2, 4, 5, 9], [3, 6, 7, 8, 10, 11], [12, 13, 14, 15, 16, 29], [17, 18, 19, 20, 21, 22], [23, 24, 25, 26, 27, 28], [30, 31, 32, 33, 34, 35]]), ((6, 6, 2, 0, 0, 0, 1), 2, 7166028069804325965630896340157290559844880, 344801273956033637832379521302563, [[0, 6, 12, 19, 24, 30], [1, 7, 13, 18, 25, 31], [2, 8, 14, 20, 26, 34], [3, 9, 15, 21, 27, 32], [4, 10, 16, 22, 28, 33], [5, 11, 17, 23, 29, 35]]), ((6, 7, 2, 0, 0, 0, 0), 2, 40173451011379717013744150013657385180050491833996820877312, 1255420342503673520473377062172889799332316071503856738576, [[0, 1, 2, 4, 5, 6, 10], [3, 7, 8, 9, 11, 12, 13], [14, 15, 16, 17, 18, 19, 41], [20, 21, 22, 23, 24, 25, 26], [27, 28, 29, 30, 31, 32, 33], [34, 35, 36, 37, 38, 39, 40], [42, 43, 44, 45, 46, 47, 48]]), ((6, 7, 2, 0, 0, 0, 1), 2, 38576271231895677432117530959348588214891277356542897435152, 91700669722143442298171379155967248075881185315, [[0, 7, 14, 22, 28, 35, 42], [1, 8, 15, 21, 29, 36, 43], [2, 9, 16, 23, 30, 37, 47], [3, 10, 17, 24, 31, 38, 44], [4, 11, 18, 25, 32, 39, 45], [5, 12, 19, 26, 33, 40, 46], [6, 13, 20, 27, 34, 41, 48]])]
theorem certs29_ok : certs29.all certOk = true := by decide +kernel
def certs : List Cert := certs0 ++ certs1 ++ certs2 ++ certs3 ++ certs4 ++ certs5 ++ certs6 ++ certs7 ++ certs8 ++ certs9 ++ certs10 ++ certs11 ++ certs12 ++ certs13 ++ certs14 ++ certs15 ++ certs16 ++ certs17 ++ certs18 ++ certs19 ++ certs20 ++ certs21 ++ certs22 ++ certs23 ++ certs24 ++ certs25 ++ certs26 ++ certs27 ++ certs28 ++ certs29
theorem certs_ok : certs.all certOk = true := by
  unfold certs
  simp only [List.all_append, certs0_ok, certs1_ok, certs2_ok, certs3_ok, certs4_ok, certs5_ok, certs6_ok, certs7_ok, certs8_ok, certs9_ok, certs10_ok, certs11_ok, certs12_ok, certs13_ok, certs14_ok, certs15_ok, certs16_ok, certs17_ok, certs18_ok, certs19_ok, certs20_ok, certs21_ok, certs22_ok, certs23_ok, certs24_ok, certs25_ok, certs26_ok, certs27_ok, certs28_ok, certs29_ok, Bool.and_self]
end K52
/-! Each family's ranks rise. -/
namespace K52
def keyOf (kind s m a b c d : Nat) : Nat × Nat × Nat × Nat × Nat × Nat × Nat := (kind, s, m, a, b, c, d)
theorem cover : famL.all (fun q => allB (R10 q.1 q.2.1) fun a => allB (R11 q.1 q.2.1) fun b => allB (R12 q.1 q.2.1) fun c => allB (R14 q.1) fun d => certs.any fun x => decide (x.1 = keyOf q.1 q.2.1 q.2.2 a b c d)) = true := by decide +kernel
theorem cert_get {kind s m a b c d : Nat} (h : Fam kind s m) (ha : a < R10 kind s) (hb : b < R11 kind s) (hc : c < R12 kind s) (hd : d < R14 kind) : ∃ x ∈ certs, x.1 = (kind, s, m, a, b, c, d) := by
  have h1 := List.all_eq_true.mp cover _ h
  have h2 := allB_of (allB_of (allB_of (allB_of h1 a ha) b hb) c hc) d hd
  obtain ⟨x, hx, e⟩ := List.any_eq_true.mp h2
  exact ⟨x, hx, of_decide_eq_true e⟩
theorem dig_enc : ∀ (l : List Nat), (∀ d ∈ l, d < 16) → ∀ k, k < l.length → dig (encB l) k = tb l k
  | [], _, k, hk => absurd hk (Nat.not_lt_zero _)
  | d :: l, h, 0, _ => by
    have hd := h d List.mem_cons_self
    show (encB l * 16 + d) / 16 ^ 0 % 16 = d
    rw [Nat.pow_zero, Nat.div_one]
    omega
  | d :: l, h, k + 1, hk => by
    have hd := h d List.mem_cons_self
    have ih := dig_enc l (fun x hx => h x (List.mem_cons_of_mem _ hx)) k (by simpa using hk)
    show (encB l * 16 + d) / 16 ^ (k + 1) % 16 = tb l k
    rw [← ih, Nat.pow_succ, Nat.mul_comm (16 ^ k) 16, ← Nat.div_div_eq_div_mul, show (encB l * 16 + d) / 16 = encB l by omega]
    rfl
theorem chk_rise {F : List Nat} {s N ρ : Nat} {G : List (List Nat)} (h16 : ∀ d ∈ F, d < 16) (h : chkB (encB F) ρ s N F.length G = true) : RiseP F s N (fun i => (dig ρ i : Int)) := by
  intro l r hl hr he hn
  unfold chkB at h
  rw [Bool.and_eq_true] at h
  have m1 := hasB_mem (allB_of h.1 l hl)
  have m2 := hasB_mem (allB_of h.1 r hr)
  rw [dig_enc F h16 l hl] at m1
  rw [dig_enc F h16 r hr, ← he] at m2
  have hg : G.getD (tb F l) [] ∈ G := by
    by_cases hlt : tb F l < G.length
    · rw [List.getD_eq_getElem?_getD, List.getElem?_eq_getElem hlt]
      exact List.getElem_mem _
    · rw [List.getD_eq_getElem?_getD, List.getElem?_eq_none (by omega)] at m1
      cases m1
  have h1 := List.all_eq_true.mp (List.all_eq_true.mp (List.all_eq_true.mp h.2 _ hg) l m1) r m2
  unfold chkLR at h1
  have key : lessB ρ s N l r = true := by
    by_cases e1 : l / s = r / s
    · rw [if_pos e1, if_neg (fun e2 => hn ⟨e1, e2⟩)] at h1
      exact h1
    · rw [if_neg e1] at h1
      exact h1
  have : dig ρ (pn (l / s) (r / s) N) < dig ρ (pn (l % N) (r % N) N) := by
    have := Nat.ble_eq.mp key
    omega
  show ((dig ρ (pn (l / s) (r / s) N) : Nat) : Int) < ((dig ρ (pn (l % N) (r % N) N) : Nat) : Int)
  omega
theorem baseT_len (kind s m a b c d : Nat) : (baseT kind s m a b c d).length = s ^ m := by
  unfold baseT
  rw [List.length_map, List.length_range]
theorem R_pos {kind s m : Nat} (f : FamOk kind s m) : 0 < R10 kind s ∧ 0 < R11 kind s ∧ 0 < R12 kind s ∧ 0 < R14 kind := by
  have h2 := f.s2
  have c2 := f.c2
  refine ⟨?_, ?_, ?_, ?_⟩
  · unfold R10
    split
    · decide
    split
    · decide
    split
    · rename_i h
      have := c2 h
      omega
    split
    · decide
    split
    · split <;> decide
    · decide
  · unfold R11
    split
    · decide
    split
    · split <;> decide
    · decide
  · unfold R12
    split
    · split
      · decide
      · omega
    · decide
  · unfold R14
    split
    · decide
    split <;> decide
theorem fam_rise {kind s m x10 x11 x12 x13 x14 : Nat} {names : List Nat} (hf : Fam kind s m) (hp : names.Perm (List.range s)) :
    ∃ ρ : Nat → Nat, RiseP (lawFrame (coreT kind s m x10 x11 x12 x13 x14 names) s m) s (s ^ (lawSize (coreT kind s m x10 x11 x12 x13 x14 names) s m - 1)) (fun i => (ρ i : Int)) := by
  have f := hf.ok
  have hs : 0 < s := by have := f.s2; omega
  obtain ⟨p1, p2, p3, p4⟩ := R_pos f
  obtain ⟨x, hx, ex⟩ := cert_get hf (Nat.mod_lt x10 p1) (Nat.mod_lt x11 p2) (Nat.mod_lt x12 p3) (Nat.mod_lt x14 p4)
  have ok := List.all_eq_true.mp certs_ok x hx
  obtain ⟨y, q, Fe, ρ, G⟩ := x
  obtain rfl : y = _ := ex
  unfold certOk at ok
  simp only [Bool.and_eq_true] at ok
  obtain ⟨⟨hq, hF⟩, hc⟩ := ok
  have eT := core_eqT (x10 := x10) (x11 := x11) (x12 := x12) (x13 := x13) (x14 := x14) hf hp
  obtain ⟨eF, eq⟩ := eT.frame hs (coreT_len _ _ _ _ _ _ _ _ _)
  have hq := Nat.eq_of_beq_eq_true hq
  have hF := Nat.eq_of_beq_eq_true hF
  rw [eq]
  generalize hB : baseT kind s m (x10 % R10 kind s) (x11 % R11 kind s) (x12 % R12 kind s) (x14 % R14 kind) = B at *
  have hlt : ∀ d ∈ B, d < s := fun d hd => by
    rw [← hB] at hd
    unfold baseT at hd
    obtain ⟨k, _, rfl⟩ := List.mem_map.mp hd
    exact toldF_lt f (wordN_lt s hs m k)
  have h9 := f.s9
  refine ⟨dig ρ, eF.rise (chk_rise (G := G) (fun d hd => by have := lawFrame_lt hs hlt d hd; omega) ?_)⟩
  rw [hF, lawFrame_len, hq]
  exact hc
end K52
/-! A table whose pairs' ranks rise tells each sign as often; one entry changed breaks it. -/
namespace K52
def rg (s m k : Nat) (i : Nat) : Nat := k / s ^ (m - 1 - i % m) % s
theorem rg_lt {s m k i : Nat} (hs : 0 < s) : rg s m k i < s := Nat.mod_lt _ hs
theorem rg_per (s m k i : Nat) : rg s m k (i + m) = rg s m k i := by
  unfold rg
  rw [Nat.add_mod_right]
theorem rg_mul (s m k i c : Nat) : rg s m k (i + m * c) = rg s m k i := by
  unfold rg
  rw [Nat.add_mul_mod_self_left]
theorem rg_mod (s m k i j : Nat) : rg s m k (i % m + j) = rg s m k (i + j) := by
  unfold rg
  rw [Nat.mod_add_mod]
theorem rg_win {s m k : Nat} (hs : 0 < s) (hk : k < s ^ m) : win s (rg s m k) m = k := by
  rw [← win_word s m k hs hk]
  rw [win_congr s (y := fun j => k / s ^ (m - 1 - j) % s) m fun i hi => by unfold rg; rw [win_word s m k hs hk, Nat.mod_eq_of_lt hi]]
theorem win_shift (s : Nat) (z : Nat → Nat) (n : Nat) : win s z (n + 1) = z 0 * s ^ n + win s (fun j => z (1 + j)) n := by
  rw [Nat.add_comm n 1, win_add]
  show (win s z 0 * s + z 0) * s ^ n + _ = _
  rw [show win s z 0 = 0 from rfl, Nat.zero_mul, Nat.zero_add]
theorem ring_inj {F : List Nat} {s q m : Nat} {ρ : Nat → Int} (hs : 2 ≤ s) (hq : 2 ≤ q) (hF : F.length = s ^ q) (R : RiseP F s (s ^ (q - 1)) ρ) {z y : Nat → Nat} (hm : 0 < m) (hz : ∀ i, z i < s) (hy : ∀ i, y i < s)
    (pz : ∀ i, z (i + m) = z i) (py : ∀ i, y (i + m) = y i) (h : ∀ i, tb F (win s (fun j => z (i + j)) q) = tb F (win s (fun j => y (i + j)) q)) : ∀ i, z i = y i := by
  have hN : 0 < s ^ (q - 1) := Nat.pow_pos (by omega)
  have hq1 : q = (q - 1) + 1 := by omega
  have dv : ∀ (x : Nat → Nat), (∀ i, x i < s) → ∀ i, win s (fun j => x (i + j)) q / s = win s (fun j => x (i + j)) (q - 1) := fun x hx i => by
    rw [hq1, win, Nat.mul_comm, Nat.mul_add_div (by omega), Nat.div_eq_of_lt (hx _)]
    rfl
  have md : ∀ (x : Nat → Nat), (∀ i, x i < s) → ∀ i, win s (fun j => x (i + j)) q % s ^ (q - 1) = win s (fun j => x (i + 1 + j)) (q - 1) := fun x hx i => by
    have e : win s (fun j => x (i + j)) q = x (i + 0) * s ^ (q - 1) + win s (fun j => x (i + (1 + j))) (q - 1) := by
      conv => lhs; rw [hq1]
      exact win_shift s (fun j => x (i + j)) (q - 1)
    rw [e, Nat.mul_comm, Nat.mul_add_mod, Nat.mod_eq_of_lt (win_lt s _ fun j _ => hx _)]
    exact win_congr s _ fun j _ => by rw [Nat.add_assoc]
  have wl : ∀ (x : Nat → Nat), (∀ i, x i < s) → ∀ i, win s (fun j => x (i + j)) q < F.length := fun x hx i => by
    rw [hF]
    exact win_lt s q fun j _ => hx _
  -- the ranks of the pairs around the ring
  let p : Nat → Nat := fun i => pn (win s (fun j => z (i + j)) (q - 1)) (win s (fun j => y (i + j)) (q - 1)) (s ^ (q - 1))
  have step : ∀ i, ¬ (win s (fun j => z (i + j)) (q - 1) = win s (fun j => y (i + j)) (q - 1) ∧ win s (fun j => z (i + 1 + j)) (q - 1) = win s (fun j => y (i + 1 + j)) (q - 1)) → ρ (p i) < ρ (p (i + 1)) := fun i hn => by
    have := R _ _ (wl z hz i) (wl y hy i) (h i) (by rw [dv z hz, dv y hy, md z hz, md y hy]; exact hn)
    rw [dv z hz, dv y hy, md z hz, md y hy] at this
    exact this
  have weak : ∀ i, ρ (p i) ≤ ρ (p (i + 1)) := fun i => by
    by_cases hn : win s (fun j => z (i + j)) (q - 1) = win s (fun j => y (i + j)) (q - 1) ∧ win s (fun j => z (i + 1 + j)) (q - 1) = win s (fun j => y (i + 1 + j)) (q - 1)
    · have e : p i = p (i + 1) := by
        show pn _ _ _ = pn _ _ _
        rw [hn.1, hn.2]
        unfold pn
        rw [if_pos rfl, if_pos rfl]
      rw [e]
      exact Int.le_refl _
    · exact Int.le_of_lt (step i hn)
  intro i
  apply Classical.byContradiction
  intro hne
  have hu : win s (fun j => z (i + j)) (q - 1) ≠ win s (fun j => y (i + j)) (q - 1) := fun e => by
    have h1 := win_digit s (z := fun j => z (i + j)) (q - 1) (fun j _ => hz _) 0 (by omega)
    have h2 := win_digit s (z := fun j => y (i + j)) (q - 1) (fun j _ => hy _) 0 (by omega)
    rw [e, h2] at h1
    exact hne h1.symm
  have s1 := step i fun e => hu e.1
  have up : ∀ k, ρ (p (i + 1)) ≤ ρ (p (i + 1 + k)) := fun k => by
    induction k with
    | zero => exact Int.le_refl _
    | succ k ih => exact Int.le_trans ih (weak (i + 1 + k))
  have per : p (i + m) = p i := by
    have e1 : win s (fun j => z (i + m + j)) (q - 1) = win s (fun j => z (i + j)) (q - 1) := win_congr s _ fun j _ => by rw [show i + m + j = (i + j) + m by omega, pz]
    have e2 : win s (fun j => y (i + m + j)) (q - 1) = win s (fun j => y (i + j)) (q - 1) := win_congr s _ fun j _ => by rw [show i + m + j = (i + j) + m by omega, py]
    show pn _ _ _ = pn _ _ _
    rw [e1, e2]
  have u2 := up (m - 1)
  rw [show i + 1 + (m - 1) = i + m by omega, per] at u2
  omega
/-- the rings of m signs told once -/
def phi (T : List Nat) (s m k : Nat) : Nat := win s (fun i => tb T (win s (fun j => rg s m k (i + j)) m)) m
section
variable {T : List Nat} {s m : Nat} {ρ : Nat → Int}
theorem phi_lt (hs : 0 < s) (hT : ∀ d ∈ T, d < s) (k : Nat) : phi T s m k < s ^ m := win_lt s m fun i _ => tb_lt hs hT _
theorem phi_first (hs : 0 < s) (hm : 1 ≤ m) (hT : ∀ d ∈ T, d < s) {k : Nat} (hk : k < s ^ m) : phi T s m k / s ^ (m - 1) = tb T k := by
  have h1 := win_digit s (z := fun i => tb T (win s (fun j => rg s m k (i + j)) m)) m (fun i _ => tb_lt hs hT _) 0 (by omega)
  have e : win s (fun j => rg s m k (0 + j)) m = k := by
    rw [win_congr s (y := rg s m k) m fun j _ => by rw [Nat.zero_add]]
    exact rg_win hs hk
  have h1 : phi T s m k / s ^ (m - 1 - 0) % s = tb T (win s (fun j => rg s m k (0 + j)) m) := h1
  rw [e, Nat.sub_zero, Nat.mod_eq_of_lt] at h1
  · exact h1
  · have := phi_lt (m := m) hs hT k
    rw [show m = (m - 1) + 1 by omega, Nat.pow_succ] at this
    exact Nat.div_lt_of_lt_mul (by rw [show m = (m - 1) + 1 by omega]; exact this)
theorem phi_inj (hs : 2 ≤ s) (hm : 1 ≤ m) (hl : T.length = s ^ m) (hT : ∀ d ∈ T, d < s) (R : RiseP (lawFrame T s m) s (s ^ (lawSize T s m - 1)) ρ) {k k' : Nat} (hk : k < s ^ m) (hk' : k' < s ^ m) (h : phi T s m k = phi T s m k') : k = k' := by
  have hs0 : 0 < s := by omega
  have h1 : ∀ i, i < m → tb T (win s (fun j => rg s m k (i + j)) m) = tb T (win s (fun j => rg s m k' (i + j)) m) := fun i hi => by
    have a := win_digit s (z := fun i => tb T (win s (fun j => rg s m k (i + j)) m)) m (fun i _ => tb_lt hs0 hT _) i hi
    have b := win_digit s (z := fun i => tb T (win s (fun j => rg s m k' (i + j)) m)) m (fun i _ => tb_lt hs0 hT _) i hi
    have a : phi T s m k / s ^ (m - 1 - i) % s = _ := a
    have b : phi T s m k' / s ^ (m - 1 - i) % s = _ := b
    rw [h] at a
    exact a.symm.trans b
  have h2 : ∀ i, tb T (win s (fun j => rg s m k (i + j)) m) = tb T (win s (fun j => rg s m k' (i + j)) m) := fun i => by
    have := h1 (i % m) (Nat.mod_lt _ (by omega))
    have ea : ∀ x, win s (fun j => rg s m x (i % m + j)) m = win s (fun j => rg s m x (i + j)) m := fun x => win_congr s m fun j _ => rg_mod s m x i j
    rw [ea, ea] at this
    exact this
  have hf : lawFirst T s m ≤ m * lawFirst T s m := Nat.le_mul_of_pos_left _ (by omega)
  have h3 : ∀ x i, tb (lawFrame T s m) (win s (fun j => rg s m x (i + j)) (lawSize T s m)) = tb T (win s (fun j => rg s m x (i + m * lawFirst T s m - lawFirst T s m + j)) m) := fun x i => by
    have a := core_win (T := T) (m := m) hs hl (z := fun j => rg s m x (i + m * lawFirst T s m - lawFirst T s m + j)) fun j => rg_lt hs0
    rw [a]
    generalize lawFirst T s m = f0 at hf ⊢
    have e : win s (fun j => rg s m x (i + j)) (lawSize T s m) = win s (fun j => rg s m x (i + m * f0 - f0 + (f0 + j))) (lawSize T s m) := win_congr s _ fun j _ => by
      rw [show i + m * f0 - f0 + (f0 + j) = (i + j) + m * f0 by omega, rg_mul]
    rw [e]
  have h3 : ∀ i, tb (lawFrame T s m) (win s (fun j => rg s m k (i + j)) (lawSize T s m)) = tb (lawFrame T s m) (win s (fun j => rg s m k' (i + j)) (lawSize T s m)) := fun i => by
    rw [h3 k i, h3 k' i]
    exact h2 _
  have h4 := ring_inj (z := rg s m k) (y := rg s m k') hs (lawSize_ge T s m) (lawFrame_len T s m) R (m := m) (by omega) (fun i => rg_lt hs0) (fun i => rg_lt hs0) (rg_per s m k) (rg_per s m k') h3
  rw [← rg_win hs0 hk, ← rg_win hs0 hk']
  exact win_congr s m fun i _ => h4 i
theorem nodup_map_on {α β : Type} {f : α → β} : ∀ {l : List α}, l.Nodup → (∀ x ∈ l, ∀ y ∈ l, f x = f y → x = y) → (l.map f).Nodup
  | [], _, _ => List.nodup_nil
  | a :: l, hn, h => by
    obtain ⟨h1, h2⟩ := List.nodup_cons.mp hn
    rw [List.map_cons, List.nodup_cons]
    refine ⟨fun hm => ?_, nodup_map_on h2 fun x hx y hy => h x (List.mem_cons_of_mem _ hx) y (List.mem_cons_of_mem _ hy)⟩
    obtain ⟨x, hx, e⟩ := List.mem_map.mp hm
    exact h1 (h x (List.mem_cons_of_mem _ hx) a List.mem_cons_self e ▸ hx)
def saysA (T : List Nat) (n a : Nat) : List Nat := (List.range n).filter fun k => tb T k == a
theorem mem_saysA {T : List Nat} {n a k : Nat} : k ∈ saysA T n a ↔ k < n ∧ tb T k = a := by
  unfold saysA
  rw [List.mem_filter, List.mem_range, beq_iff_eq]
theorem saysA_nd (T : List Nat) (n a : Nat) : (saysA T n a).Nodup := List.nodup_range.filter _
def rowY (s m a : Nat) : List Nat := (List.range (s ^ (m - 1))).map fun i => a * s ^ (m - 1) + i
theorem rowY_len (s m a : Nat) : (rowY s m a).length = s ^ (m - 1) := by unfold rowY; rw [List.length_map, List.length_range]
theorem rowY_nd (s m a : Nat) : (rowY s m a).Nodup := nodup_map_on List.nodup_range fun x _ y _ e => by omega
theorem mem_rowY {s m a y : Nat} (hs : 0 < s) : y ∈ rowY s m a ↔ y / s ^ (m - 1) = a := by
  have hM : 0 < s ^ (m - 1) := Nat.pow_pos hs
  unfold rowY
  constructor
  · intro h
    obtain ⟨i, hi, rfl⟩ := List.mem_map.mp h
    rw [Nat.mul_comm, Nat.mul_add_div hM, Nat.div_eq_of_lt (List.mem_range.mp hi)]
    rfl
  · intro h
    refine List.mem_map.mpr ⟨y % s ^ (m - 1), List.mem_range.mpr (Nat.mod_lt _ hM), ?_⟩
    rw [← h, Nat.mul_comm]
    exact Nat.div_add_mod y _
theorem says_le (hs : 2 ≤ s) (hm : 1 ≤ m) (hl : T.length = s ^ m) (hT : ∀ d ∈ T, d < s) (R : RiseP (lawFrame T s m) s (s ^ (lawSize T s m - 1)) ρ) (a : Nat) : (saysA T (s ^ m) a).length ≤ s ^ (m - 1) := by
  have := nodup_le (l := (saysA T (s ^ m) a).map (phi T s m)) (r := rowY s m a) (nodup_map_on (saysA_nd _ _ _) fun x hx y hy e => phi_inj hs hm hl hT R (mem_saysA.mp hx).1 (mem_saysA.mp hy).1 e) fun y hy => by
    obtain ⟨k, hk, rfl⟩ := List.mem_map.mp hy
    obtain ⟨h1, h2⟩ := mem_saysA.mp hk
    rw [mem_rowY (by omega), phi_first (by omega) hm hT h1, h2]
  rwa [List.length_map, rowY_len] at this
theorem says_ge (hs : 2 ≤ s) (hm : 1 ≤ m) (hl : T.length = s ^ m) (hT : ∀ d ∈ T, d < s) (R : RiseP (lawFrame T s m) s (s ^ (lawSize T s m - 1)) ρ) {a : Nat} (ha : a < s) : s ^ (m - 1) ≤ (saysA T (s ^ m) a).length := by
  have full := nodup_full (l := (List.range (s ^ m)).map (phi T s m)) (r := List.range (s ^ m)) (nodup_map_on List.nodup_range fun x hx y hy e => phi_inj hs hm hl hT R (List.mem_range.mp hx) (List.mem_range.mp hy) e)
    (fun y hy => by
      obtain ⟨k, hk, rfl⟩ := List.mem_map.mp hy
      exact List.mem_range.mpr (phi_lt (by omega) hT k)) List.nodup_range (by rw [List.length_map]; exact Nat.le_refl _)
  have := nodup_le (l := rowY s m a) (r := (saysA T (s ^ m) a).map (phi T s m)) (rowY_nd _ _ _) fun y hy => by
    have h1 := (mem_rowY (by omega)).mp hy
    have hM : 0 < s ^ (m - 1) := Nat.pow_pos (by omega)
    have hys : y < s ^ m := by
      rw [show m = (m - 1) + 1 by omega, Nat.pow_succ, Nat.mul_comm]
      exact (Nat.div_lt_iff_lt_mul hM).mp (by rw [h1]; exact ha)
    obtain ⟨k, hk, e⟩ := List.mem_map.mp (full y (List.mem_range.mpr hys))
    have hk := List.mem_range.mp hk
    refine List.mem_map.mpr ⟨k, mem_saysA.mpr ⟨hk, ?_⟩, e⟩
    rw [← phi_first (by omega) hm hT hk, e, h1]
  rwa [List.length_map, rowY_len] at this
/-- one entry changed: the ranks can't rise any more -/
theorem changed_not {ρ' : Nat → Int} (hs : 2 ≤ s) (hm : 1 ≤ m) (hl : T.length = s ^ m) (hT : ∀ d ∈ T, d < s) (R : RiseP (lawFrame T s m) s (s ^ (lawSize T s m - 1)) ρ) {at' v : Nat} (hat : at' < s ^ m) (hv : v < s) (hne : v ≠ tb T at')
    (R' : RiseP (lawFrame (T.set at' v) s m) s (s ^ (lawSize (T.set at' v) s m - 1)) ρ') : False := by
  have hT' : ∀ d ∈ T.set at' v, d < s := fun d hd => by
    rcases List.mem_or_eq_of_mem_set hd with h | h
    · exact hT d h
    · rw [h]; exact hv
  have h1 := says_ge hs hm hl hT R hv
  have h2 := says_le hs hm (by rw [List.length_set]; exact hl) hT' R' v
  have same : ∀ k, k ≠ at' → tb (T.set at' v) k = tb T k := fun k hk => by
    unfold tb
    rw [List.getD_eq_getElem?_getD, List.getD_eq_getElem?_getD, List.getElem?_set_ne (Ne.symm hk)]
  have there : tb (T.set at' v) at' = v := by
    unfold tb
    rw [List.getD_eq_getElem?_getD, List.getElem?_set_self (by omega)]
    rfl
  have h3 := nodup_le (l := at' :: saysA T (s ^ m) v) (r := saysA (T.set at' v) (s ^ m) v) (List.nodup_cons.mpr ⟨fun h => hne (mem_saysA.mp h).2.symm, saysA_nd _ _ _⟩) fun k hk => by
    rcases List.mem_cons.mp hk with e | hk
    · rw [e]
      exact mem_saysA.mpr ⟨hat, there⟩
    · obtain ⟨a, b⟩ := mem_saysA.mp hk
      refine mem_saysA.mpr ⟨a, ?_⟩
      rw [same k fun e => hne (by rw [← e, b]), b]
  rw [List.length_cons] at h3
  omega
end
end K52
set_option Elab.async false
set_option maxRecDepth 100000
namespace K52
open PySem L2
def top (i : Nat) : Stmt := PySem.Challenge.pw_rowrules_k52_whole_one_to_one_or_twins.main.body.getD i (.Pass ⟨0, 0, 0, 0⟩)
end K52
set_option Elab.async false
set_option maxRecDepth 100000
namespace K52
open PySem L2

/-- naturals as values -/
abbrev nv (n : Nat) : V := .int (n : Int)
abbrev nvs (l : List Nat) : List V := l.map nv
theorem sT {K : PySem.W.Frag} {H H' : Hp} {a : Addr} {xs : List V} (e : Same H H') (h : SqT K H a xs) : SqT K H' a xs := by
  rcases h with h | h
  · rcases h with h | ⟨o, h⟩
    · exact .inl (.inl (e _ _ h))
    · exact .inl (.inr ⟨o, e _ _ h⟩)
  · exact .inr h
theorem nvs_get {l : List Nat} {i : Nat} {x : V} (h : (nvs l)[i]? = some x) : ∃ n, l[i]? = some n ∧ x = nv n := by
  rw [List.getElem?_map] at h
  cases e : l[i]? with
  | none => rw [e] at h; cases h
  | some n => rw [e] at h; exact ⟨n, rfl, (Option.some.inj h).symm⟩
theorem nvs_at {l : List Nat} {i : Nat} {n : Nat} (h : l[i]? = some n) : (nvs l)[i]? = some (nv n) := by rw [List.getElem?_map, h]; rfl
/-- a reckoned number by a better name -/
theorem as_int {R : V → Hp → Prop} {x y : Int} {H : Hp} (e : x = y) (h : R (.int y) H) : R (.int x) H := e ▸ h
theorem ifT {c A B : Prop} [Decidable c] (hc : c) (h : A) : if decide c = true then A else B := by rw [if_pos (decide_eq_true hc)]; exact h
theorem ifF {c A B : Prop} [Decidable c] (hc : ¬ c) (h : B) : if decide c = true then A else B := by rw [if_neg (by simp [hc])]; exact h
theorem ifNT {c A B : Prop} [Decidable c] (hc : ¬ c) (h : A) : if (!decide c) = true then A else B := by rw [if_pos (by simp [hc])]; exact h
theorem ifNF {c A B : Prop} [Decidable c] (hc : c) (h : B) : if (!decide c) = true then A else B := by rw [if_neg (by simp [hc])]; exact h
theorem if2 {c A B : Prop} [Decidable c] (h1 : c → A) (h2 : ¬ c → B) : if decide c = true then A else B := by
  by_cases hc : c
  · exact ifT hc (h1 hc)
  · exact ifF hc (h2 hc)
theorem ifN2 {c A B : Prop} [Decidable c] (h1 : ¬ c → A) (h2 : c → B) : if (!decide c) = true then A else B := by
  by_cases hc : c
  · exact ifNF hc (h2 hc)
  · exact ifNT hc (h1 hc)
/-- what a caller knows of a def -/
structure Cal (K : PySem.W.Frag) (mg : Str → Option Value) (x : Str) (f : Addr) (fd : FuncData) (ps : List Str) : Prop where
  mg : mg x = some (.ref f)
  kp : PySem.W.keepIn K (.ref f) = true
  b : Binds K fd ps []
/-- the built-in names that the text uses: none of its own -/
structure Bt (mg : Str → Option Value) : Prop where
  len : mg "len" = none
  range : mg "range" = none
  divmod : mg "divmod" = none
  list : mg "list" = none
  reversed : mg "reversed" = none
  tuple : mg "tuple" = none
  max : mg "max" = none
  isinstance : mg "isinstance" = none
  int : mg "int" = none
  bool : mg "bool" = none
  sorted : mg "sorted" = none
  zip : mg "zip" = none

theorem for_range0 {n : Nat} {g : TG} {tb : TS} {D : Ends} {σ : L2.St} {H : Hp} (Pv : Nat → L2.St → Hp → Prop) (h0 : Pv 0 σ H)
    (hs : ∀ i σ H, i < n → Pv i σ H → g (nv i) σ H fun σ2 H2 => tb { D with nx := Pv (i + 1), ct := Pv (i + 1), bk := D.nx } σ2 H2) (hd : ∀ σ H, Pv n σ H → D.nx σ H) :
    ∃ W : Nat → Nat → L2.St → Hp → Prop, (∃ m, W 0 m σ H) ∧ ∀ i m σ H, W i m σ H → ((Itr 0 n).stop i H ∧ D.nx σ H) ∨ ((Itr 0 n).go i H ∧ ∃ N : L2.St → Hp → Prop, (∀ σ' H', N σ' H' → ∃ m', m' < m ∧ W (i + 1) m' σ' H') ∧ ∀ x H', (Itr 0 n).yld i H x H' → g x σ H' fun σ2 H2 => tb { D with nx := N, ct := N, bk := D.nx } σ2 H2) :=
  for_range (lo := 0) (n := n) Pv h0 (fun i σ H hi p => by rw [Int.zero_add]; exact hs i σ H hi p) hd
theorem lc_range0 {n : Nat} {g : TG} {tt : TT} {te : TE} {vs : List Nat} {σ : L2.St} {H1 : Hp} {D : Addr} {Qd : Hp → Prop} (Pv : Nat → Hp → Prop) (h0 : Pv 0 (L2.upd H1 D (.lst [])))
    (hs : ∀ i H, i < n → Pv i H → g (nv i) (wipe σ vs) H fun σ2 H2 => wipe σ2 vs = wipe σ vs ∧ tt σ2 H2 fun b H3 =>
      if b = true then te σ2 H3 fun y H4 => ∃ acc, H4 D = some (.lst acc) ∧ acc.length < sizeLine ∧ Pv (i + 1) (L2.upd H4 D (.lst (acc ++ [y]))) else Pv (i + 1) H3) (hd : ∀ H, Pv n H → Qd H) :
    ∃ W : Nat → Nat → Hp → Prop, (∃ m, W 0 m (L2.upd H1 D (.lst []))) ∧ ∀ i m H, W i m H →
      ((Itr 0 n).stop i H ∧ Qd H) ∨ ((Itr 0 n).go i H ∧ ∃ Nx : Hp → Prop, (∀ H', Nx H' → ∃ m', m' < m ∧ W (i + 1) m' H') ∧ ∀ x H', (Itr 0 n).yld i H x H' → g x (wipe σ vs) H' fun σ2 H2 => wipe σ2 vs = wipe σ vs ∧ tt σ2 H2 fun b H3 =>
        if b = true then te σ2 H3 fun y H4 => ∃ acc, H4 D = some (.lst acc) ∧ acc.length < sizeLine ∧ Nx (L2.upd H4 D (.lst (acc ++ [y]))) else Nx H3) :=
  lc_range (lo := 0) (n := n) Pv h0 (fun i H hi p => by rw [Int.zero_add]; exact hs i H hi p) hd
/-- a def of the text, as the top has left it -/
def FunC (K : PySem.W.Frag) (mg : Str → Option Value) (x : Str) (i : Nat) (ps : List Str) : Prop := ∃ f fd, Fun K x x (top i) f fd ∧ Cal K mg x f fd ps
/-- a def that keeps its promise -/
def Has (P : Program) (w : World) (K : PySem.W.Frag) (mg : Str → Option Value) (base : Heap) (k : Nat) (x : Str) (ps : List Str) (sp : Sp) : Prop := ∃ f fd, FnOk P w K mg base CX0 k f fd ps sp ∧ Cal K mg x f fd ps
theorem Has.mono {P : Program} {w : World} {K : PySem.W.Frag} {mg : Str → Option Value} {base : Heap} {j k : Nat} {x : Str} {ps : List Str} {sp : Sp} (h : Has P w K mg base j x ps sp) (hk : j ≤ k) : Has P w K mg base k x ps sp := by
  obtain ⟨f, fd, G, C⟩ := h
  exact ⟨f, fd, G.mono hk, C⟩
/-- a rule at an address -/
def RuleAt (K : PySem.W.Frag) (H : Hp) (a : Addr) (s : Nat) (low : Int) (T : List Nat) : Prop := ∃ t, SqT K H a [nv s, .int low, .ref t] ∧ SqT K H t (nvs T)
theorem RuleAt.same {K : PySem.W.Frag} {H H' : Hp} {a : Addr} {s : Nat} {low : Int} {T : List Nat} (r : RuleAt K H a s low T) (e : Same H H') : RuleAt K H' a s low T := by
  obtain ⟨t, h1, h2⟩ := r
  exact ⟨t, sT e h1, sT e h2⟩
theorem sNew {H : Hp} {p : Addr} {o : HO} (h : H p = none) : Same H (upd H p o) := fun b u e => by rw [upd_ne (ne_of_none e h)]; exact e
theorem sUp {H H' : Hp} {p : Addr} {o : HO} (e : Same H H') (h : H p = none) : Same H (L2.upd H' p o) := fun b u q => by rw [upd_ne (ne_of_none q h)]; exact e b u q

section
variable {P : Program} {w : World} {K : PySem.W.Frag} {mg : Str → Option Value} {base : Heap}

abbrev st_value : Stmt := top 6
theorem sc_value : FnScope ["word", "signs", "number", "sign"] ["word", "signs"] (defScope st_value) := ⟨rfl, rfl, rfl, by decide +kernel, rfl, by decide +kernel, by decide +kernel⟩
def sp_value (K : PySem.W.Frag) : Sp := fun vs H Q _ => ∃ (a : Addr) (s : Nat) (ds : List Nat), vs = [.ref a, nv s] ∧ s ≤ 9 ∧ SqL K H a (nvs ds) ∧ Q (nv (val s ds)) H
theorem has_value (F : FunC K mg "value" 6 ["word", "signs"]) : Has P w K mg base 1 "value" ["word", "signs"] (sp_value K) := by
  obtain ⟨f, fd, F, C⟩ := F
  refine ⟨f, fd, F.ok sc_value (fun vs H Q E h => ?_) (fun cdv A outer s H vs Q E hr h => ?_), C⟩
  · obtain ⟨a, s, ds, rfl, _⟩ := h
    rfl
  · obtain ⟨a, s, ds, rfl, hs, hl, k⟩ := h
    refine ⟨_, (pss_cons (ps_set (i := 2) sc_value.nd rfl (Or.inl rfl) pe_int)
      (pss_cons (ps_for PassesOwn.never rfl (pi_list (pv 0)) (pg_name (i := 3) sc_value.nd rfl (Or.inl rfl))
        (pss_one (ps_set (i := 2) sc_value.nd rfl (Or.inl rfl) (pe_op op_add (pe_op op_mul (pv 2) (pv 1)) (pv 3)))))
      (pss_one (ps_ret (pv 2))))) , ?_⟩
    refine ⟨_, rfl, a, rfl, ⟨_, hl⟩, for_list (K := K) (a := a) (xs := nvs ds) (fun i σ H' => ∃ v, σ = [some (.ref a), some (nv s), some (nv (val s (ds.take i))), v] ∧ H' = H)
      ⟨none, rfl, rfl⟩ (fun i σ H' _ ⟨_, _, e⟩ => e ▸ hl) ?_ ?_⟩
    · rintro i x σ H' hi ⟨v, rfl, rfl⟩
      obtain ⟨n, hn, rfl⟩ := nvs_get hi
      refine ⟨_, rfl, _, rfl, _, _, rfl, rfl, .inr ⟨by omega, by omega⟩, _, rfl, _, _, rfl, rfl, ?_⟩
      have e : ((val s (ds.take i) : Nat) : Int) * (s : Int) + (n : Int) = ((val s (ds.take (i + 1)) : Nat) : Int) := by
        rw [List.take_add_one, hn]
        show _ = ((val s (ds.take i ++ [n]) : Nat) : Int)
        rw [val_snoc]
        simp
      exact ⟨some (nv n), congrArg (fun z : Int => [some (V.ref a), some (nv s), some (V.int z), some (nv n)]) e, rfl⟩
    · rintro σ H' ⟨v, rfl, rfl⟩
      refine ⟨_, rfl, ?_⟩
      rw [show (nvs ds).length = ds.length from List.length_map _, List.take_length]
      exact k

abbrev st_power : Stmt := top 10
theorem sc_power : FnScope ["signs", "many", "found", "k"] ["signs", "many"] (defScope st_power) := ⟨rfl, rfl, rfl, by decide +kernel, rfl, by decide +kernel, by decide +kernel⟩
def sp_power : Sp := fun vs H Q _ => ∃ (s n : Nat), vs = [nv s, nv n] ∧ s ≤ 9 ∧ n ≤ 1000 ∧ Q (nv (s ^ n)) H
theorem has_power (F : FunC K mg "power" 10 ["signs", "many"]) (T : Bt mg) : Has P w K mg base 1 "power" ["signs", "many"] sp_power := by
  obtain ⟨f, fd, F, C⟩ := F
  refine ⟨f, fd, F.ok sc_power (fun vs H Q E h => ?_) (fun cdv A outer s H vs Q E hr h => ?_), C⟩
  · obtain ⟨s, n, rfl, _⟩ := h
    rfl
  · obtain ⟨s, n, rfl, hs, hn, k⟩ := h
    refine ⟨_, (pss_cons (ps_set (i := 2) sc_power.nd rfl (Or.inl rfl) pe_int)
      (pss_cons (ps_for PassesOwn.never rfl (pi_range1 (by rfl) T.range (pa_cons (pv 1) pa_nil)) (pg_name (i := 3) sc_power.nd rfl (Or.inl rfl))
        (pss_one (ps_set (i := 2) sc_power.nd rfl (Or.inl rfl) (pe_op op_mul (pv 2) (pv 0)))))
      (pss_one (ps_ret (pv 2))))) , ?_⟩
    refine ⟨_, rfl, _, rfl, by omega, by omega, for_range0 (n := n) (fun i σ H' => ∃ v, σ = [some (nv s), some (nv n), some (nv (s ^ i)), v] ∧ H' = H) ⟨none, rfl, rfl⟩ ?_ ?_⟩
    · rintro i σ H' hi ⟨v, rfl, rfl⟩
      refine ⟨_, rfl, _, rfl, _, _, rfl, rfl, .inr ⟨by omega, by omega⟩, ?_⟩
      have e : ((s ^ i : Nat) : Int) * (s : Int) = ((s ^ (i + 1) : Nat) : Int) := by rw [Nat.pow_succ]; simp
      exact ⟨_, congrArg (fun z : Int => [some (nv s), some (nv n), some (V.int z), _]) e, rfl⟩
    · rintro σ H' ⟨v, rfl, rfl⟩
      exact ⟨_, rfl, k⟩

abbrev st_exponent : Stmt := top 11
theorem sc_exponent : FnScope ["signs", "size", "many", "found"] ["signs", "size"] (defScope st_exponent) := ⟨rfl, rfl, rfl, by decide +kernel, rfl, by decide +kernel, by decide +kernel⟩
def sp_exponent : Sp := fun vs H Q _ => ∃ (s n : Nat), vs = [nv s, nv (s ^ n)] ∧ 2 ≤ s ∧ s ≤ 9 ∧ 1 ≤ n ∧ Q (nv n) H
theorem has_exponent (F : FunC K mg "exponent" 11 ["signs", "size"]) : Has P w K mg base 1 "exponent" ["signs", "size"] sp_exponent := by
  obtain ⟨f, fd, F, C⟩ := F
  refine ⟨f, fd, F.ok sc_exponent (fun vs H Q E h => ?_) (fun cdv A outer s H vs Q E hr h => ?_), C⟩
  · obtain ⟨s, n, rfl, _⟩ := h
    rfl
  · obtain ⟨s, n, rfl, hs2, hs, hn, k⟩ := h
    refine ⟨_, (pss_cons (ps_set (i := 2) sc_exponent.nd rfl (Or.inl rfl) pe_int)
      (pss_cons (ps_set (i := 3) sc_exponent.nd rfl (Or.inl rfl) (pv 0))
      (pss_cons (ps_while PassesOwn.never (pt_cmpR op_lt (pv 3) (pv 1) (nomark _))
        (pss_cons (ps_set (i := 3) sc_exponent.nd rfl (Or.inl rfl) (pe_op op_mul (pv 3) (pv 0)))
        (pss_one (ps_aug (i := 2) sc_exponent.nd rfl (Or.inl rfl) pe_int ip_add))))
      (pss_cons (ps_if (pt_cmpR op_eq (pv 3) (pv 1) (nomark _))
        (pss_one (ps_ret (pv 2)))
        pss_nil)
      (pss_one (ps_ret pe_int)))))) , ?_⟩
    refine ⟨_, rfl, fun m σ H' => ∃ i, 1 ≤ i ∧ i ≤ n ∧ m = n - i ∧ σ = [some (nv s), some (nv (s ^ n)), some (nv i), some (nv (s ^ i))] ∧ H' = H, ⟨n - 1, 1, Nat.le_refl _, hn, rfl, by rw [Nat.pow_one]; rfl, rfl⟩, ?_⟩
    rintro m σ H' ⟨i, h1, h2, rfl, rfl, rfl⟩
    refine ⟨_, rfl, _, rfl, _, _, rfl, rfl, _, rfl, ?_⟩
    by_cases hlt : i < n
    · have hp : s ^ i < s ^ n := Nat.pow_lt_pow_right (by omega) hlt
      refine ifT (by omega) ?_
      refine ⟨fun σ' H'' => σ' = [some (nv s), some (nv (s ^ n)), some (nv (i + 1)), some (nv (s ^ (i + 1)))] ∧ H'' = H', ?_, ?_⟩
      · rintro σ' H'' ⟨rfl, rfl⟩
        exact ⟨n - (i + 1), by omega, i + 1, by omega, by omega, rfl, rfl, rfl⟩
      · refine ⟨_, rfl, _, rfl, _, _, rfl, rfl, .inr ⟨by omega, by omega⟩, ?_⟩
        refine ⟨_, rfl, _, _, rfl, rfl, ?_⟩
        have e : ((s ^ i : Nat) : Int) * (s : Int) = ((s ^ (i + 1) : Nat) : Int) := by rw [Nat.pow_succ]; simp
        exact ⟨congrArg (fun z : Int => [some (nv s), some (nv (s ^ n)), some (nv (i + 1)), some (V.int z)]) e, rfl⟩
    · have hin : i = n := by omega
      subst hin
      refine ifF (by omega) ?_
      refine ⟨_, rfl, _, rfl, rfl, _, rfl, ?_⟩
      refine ifT rfl ?_
      exact ⟨_, rfl, k⟩
end
end K52
set_option Elab.async false
set_option maxRecDepth 100000
namespace K52
open PySem L2
/-- the module's numbers -/
structure Gb (mg : Str → Option Value) : Prop where
  most : ∃ t, mg "MOST" = some (.int 256 t)
  nodes : ∃ t, mg "MOST_NODES" = some (.int 9 t)
theorem nv_eq {a b : Nat} : (nv a = nv b) ↔ a = b := ⟨fun h => by injection h with h; omega, fun h => h ▸ rfl⟩
theorem tb_get {T : List Nat} {k : Nat} (h : k < T.length) : (nvs T)[k]? = some (nv (tb T k)) := by
  unfold tb
  rw [List.getElem?_map, List.getD_eq_getElem?_getD, List.getElem?_eq_getElem h]
  rfl
theorem nvs_len (T : List Nat) : (nvs T).length = T.length := List.length_map _
section
variable {P : Program} {w : World} {K : PySem.W.Frag} {mg : Str → Option Value} {base : Heap}

abbrev st_places : Stmt := top 12
theorem sc_places : FnScope ["one"] ["one"] (defScope st_places) := ⟨rfl, rfl, rfl, by decide +kernel, rfl, by decide +kernel, by decide +kernel⟩
def sp_places (K : PySem.W.Frag) : Sp := fun vs H Q _ => ∃ (a : Addr) (s n : Nat) (low : Int) (L : List Nat), vs = [.ref a] ∧ RuleAt K H a s low L ∧ L.length = s ^ n ∧ 2 ≤ s ∧ s ≤ 9 ∧ 1 ≤ n ∧ Q (nv n) H
theorem has_places (F : FunC K mg "places" 12 ["one"]) (T : Bt mg) (h_exponent : Has P w K mg base 1 "exponent" ["signs", "size"] sp_exponent) : Has P w K mg base 2 "places" ["one"] (sp_places K) := by
  obtain ⟨_, _, G_exponent, C_exponent⟩ := h_exponent
  obtain ⟨f, fd, F, C⟩ := F
  refine ⟨f, fd, F.ok sc_places (fun vs H Q E h => ?_) (fun cdv A outer s H vs Q E hr h => ?_), C⟩
  · obtain ⟨a, s, n, low, L, rfl, _⟩ := h
    rfl
  · obtain ⟨a, s, n, low, L, rfl, ⟨t, r1, r2⟩, hl, hs2, hs9, hn, k⟩ := h
    refine ⟨_, (pss_one (ps_ret (pe_call G_exponent hr rfl C_exponent.mg C_exponent.kp C_exponent.b .nil pass0 (pa_cons (pe_ix ix_tup (pv 0) pe_int (fun _ _ => rfl)) (pa_cons (pe_callB call_len_seq (by rfl) T.len PySem.boot_len (pa_cons (pe_ix ix_tup (pv 0) pe_int (fun _ _ => rfl)) pa_nil)) pa_nil))))) , ?_⟩
    refine ⟨_, rfl, a, _, _, _, rfl, rfl, r1, rfl, _, rfl, a, _, _, _, rfl, rfl, r1, rfl, t, _, rfl, .inr r2, s, n, ?_, hs2, hs9, hn, k⟩
    rw [nvs_len, hl]
    rfl

abbrev st_fits : Stmt := top 14
theorem sc_fits : FnScope ["signs", "many"] ["signs", "many"] (defScope st_fits) := ⟨rfl, rfl, rfl, by decide +kernel, rfl, by decide +kernel, by decide +kernel⟩
def sp_fits : Sp := fun vs H Q _ => ∃ (s : Nat), vs = [nv s, .int 2] ∧ s ≤ 9 ∧ Q (.bl true) H
theorem has_fits (F : FunC K mg "fits" 14 ["signs", "many"]) (M : Gb mg) (h_power : Has P w K mg base 1 "power" ["signs", "many"] sp_power) : Has P w K mg base 2 "fits" ["signs", "many"] sp_fits := by
  obtain ⟨_, _, G_power, C_power⟩ := h_power
  obtain ⟨f, fd, F, C⟩ := F
  obtain ⟨tm, hm⟩ := M.most
  refine ⟨f, fd, F.ok sc_fits (fun vs H Q E h => ?_) (fun cdv A outer s H vs Q E hr h => ?_), C⟩
  · obtain ⟨s, rfl, _⟩ := h
    rfl
  · obtain ⟨s, rfl, hs9, k⟩ := h
    refine ⟨_, (pss_one (ps_ret (pe_and (pe_cmpR op_le (pv 1) pe_int (nomark _)) (pe_one (pe_cmpR op_le (pe_call G_power hr rfl C_power.mg C_power.kp C_power.b .nil pass0 (pa_cons (pv 0) (pa_cons (pv 1) pa_nil))) (pe_glob (v := .int 256) rfl hm ⟨_, rfl⟩) (nomark _)))))) , ?_⟩
    refine ⟨_, rfl, _, _, rfl, rfl, _, rfl, ?_⟩
    refine ifT (by omega) ?_
    refine ⟨_, rfl, _, rfl, s, 2, rfl, hs9, by omega, _, _, rfl, rfl, ?_⟩
    have h2 : s ^ 2 ≤ 9 ^ 2 := Nat.pow_le_pow_left hs9 2
    have e : decide (((s ^ 2 : Nat) : Int) ≤ 256) = true := decide_eq_true (by omega)
    show Q (.bl (decide (((s ^ 2 : Nat) : Int) ≤ 256))) H
    rw [e]
    exact k

abbrev st_counts_at : Stmt := top 15
theorem sc_counts_at : FnScope ["table", "signs", "weight", "k"] ["table", "signs", "weight"] (defScope st_counts_at) := ⟨rfl, rfl, rfl, by decide +kernel, rfl, by decide +kernel, by decide +kernel⟩
def sp_counts_at (K : PySem.W.Frag) : Sp := fun vs H Q _ => ∃ (a : Addr) (s w : Nat) (T : List Nat), vs = [.ref a, nv s, nv w] ∧ SqT K H a (nvs T) ∧ T.length ≤ 1000 ∧ 1 ≤ s ∧ s ≤ 9 ∧ 1 ≤ w ∧ w ≤ 1000 ∧ Q (.bl (cntAt T s w)) H
theorem has_counts_at (F : FunC K mg "counts_at" 15 ["table", "signs", "weight"]) (T : Bt mg) : Has P w K mg base 1 "counts_at" ["table", "signs", "weight"] (sp_counts_at K) := by
  obtain ⟨f, fd, F, C⟩ := F
  refine ⟨f, fd, F.ok sc_counts_at (fun vs H Q E h => ?_) (fun cdv A outer s H vs Q E hr h => ?_), C⟩
  · obtain ⟨a, s, w, T, rfl, _⟩ := h
    rfl
  · obtain ⟨a, s, w, TT, rfl, hT, hl, hs1, hs9, hw1, hw, k⟩ := h
    refine ⟨_, (pss_cons (ps_for PassesOwn.never rfl (pi_range1 (by rfl) T.range (pa_cons (pe_op op_sub (pe_callB call_len_seq (by rfl) T.len PySem.boot_len (pa_cons (pv 0) pa_nil)) (pv 2)) pa_nil)) (pg_name (i := 3) sc_counts_at.nd rfl (Or.inl rfl))
        (pss_one (ps_if (PW.pt (pw_and (pt_cmpR op_lt (pe_op op_mod (pe_op op_fdiv (pv 3) (pv 2)) (pv 1)) (pe_op op_sub (pv 1) pe_int) (nomark _)) (pw_and1 (pt_cmpR op_ne (pe_ix ix_tup (pv 0) (pv 3) (fun _ _ => rfl)) (pe_ix ix_tup (pv 0) (pe_op op_add (pv 3) (pv 2)) (fun _ _ => rfl)) (nomark _)))))
          (pss_one (ps_ret pe_bl))
          pss_nil)))
      (pss_one (ps_ret pe_bl))) , ?_⟩
    refine ⟨_, rfl, a, _, rfl, .inr hT, _, rfl, _, _, rfl, rfl, _, rfl, ?_, ?_, ?_⟩
    · rw [nvs_len]; omega
    · rw [nvs_len]; omega
    have en : (((nvs TT).length : Int) - (w : Int)).toNat = TT.length - w := by rw [nvs_len]; omega
    rw [en]
    refine for_range0 (n := TT.length - w) (fun i σ H' => ∃ v, σ = [some (.ref a), some (nv s), some (nv w), v] ∧ H' = H ∧ ∀ q, q < i → (decide (q / w % s < s - 1) && decide (tb TT q ≠ tb TT (q + w))) = false) ⟨none, rfl, rfl, fun q hq => absurd hq (Nat.not_lt_zero _)⟩ ?_ ?_
    · rintro i σ H' hi ⟨v, rfl, rfl, hp⟩
      have e2 : ((i : Int) / (w : Int)) % (s : Int) = ((i / w % s : Nat) : Int) := rfl
      refine ⟨_, rfl, _, rfl, _, _, rfl, rfl, ⟨by omega, by omega⟩, _, rfl, _, _, rfl, rfl, (by show (0 : Int) < s; omega), _, rfl, _, _, rfl, rfl, _, _, rfl, rfl, _, rfl, ?_⟩
      have next : (decide (i / w % s < s - 1) && decide (tb TT i ≠ tb TT (i + w))) = false → ∃ v', [some (V.ref a), some (nv s), some (nv w), some (nv i)] = [some (V.ref a), some (nv s), some (nv w), v'] ∧ H' = H' ∧ ∀ q, q < i + 1 → (decide (q / w % s < s - 1) && decide (tb TT q ≠ tb TT (q + w))) = false := fun h => ⟨_, rfl, rfl, fun q hq => by
        by_cases e : q = i
        · rw [e]; exact h
        · exact hp q (by omega)⟩
      refine if2 (fun h1 => ?_) (fun h1 => ?_)
      · have h1 : ((i / w % s : Nat) : Int) < (s : Int) - 1 := h1
        have h1' : i / w % s < s - 1 := by omega
        refine ⟨_, rfl, _, rfl, a, _, _, _, rfl, rfl, hT, atI_nat (tb_get (by omega)), _, rfl, _, rfl, _, rfl, _, _, rfl, rfl, a, _, _, _, rfl, rfl, hT, at_of (j := i + w) (by omega) (tb_get (by omega)), rfl, _, rfl, ?_⟩
        refine ifN2 (fun h2 => ?_) (fun h2 => ?_)
        · show Q (.bl true) H'
          have : cntAt TT s w = true := by
            unfold cntAt
            rw [List.any_eq_true]
            exact ⟨i, List.mem_range.mpr hi, by rw [decide_eq_true h1', decide_eq_true (p := tb TT i ≠ tb TT (i + w)) (fun e => h2 (nv_eq.mpr e))]; rfl⟩
          rw [this] at k
          exact k
        · refine next ?_
          rw [nv_eq.mp h2]
          simp
      · have h1 : ¬ ((i / w % s : Nat) : Int) < (s : Int) - 1 := h1
        refine iteF (next ?_)
        rw [decide_eq_false (show ¬ i / w % s < s - 1 by omega)]
        rfl
    · rintro σ H' ⟨v, rfl, rfl, hp⟩
      refine (?_ : Q (.bl false) H')
      have : cntAt TT s w = false := by
        unfold cntAt
        rw [List.any_eq_false]
        intro q hq
        rw [hp q (List.mem_range.mp hq)]
        simp
      rw [this] at k
      exact k
end
end K52
set_option Elab.async false
set_option linter.all false
set_option maxRecDepth 100000
set_option maxHeartbeats 2000000
/-! Rules of this claim's own: list(reversed(a list)). -/
namespace K52
open PySem PySem.Spec PyProof.Rows
section
variable {prog : Program} {w : World} {A : Around} {E : Value → Shared → Prop} {s : Shared} {it l : Addr} {items : Array Value}
/-- a list extended by a reversed walk of another list -/
theorem ext_rev {R : Result → Shared → Prop} (hh : A.handled = none) (hit : s.heap.IsRevIter it l ((items.size : Int) - 1)) (hl : s.heap.IsList l items) (hne : l ≠ it) (hn : items.size ≤ sizeLine) (S : Addr) (hSi : S ≠ it) (hSl : S ≠ l) (res : Value) (c0 : Nat)
    (hS : s.heap.get? S = some { cls := .type "list", data := .seq #[] c0 })
    (hR : ∀ h' tk acc c, (∀ b o, b ≠ S → b ≠ it → s.heap.get? b = some o → h'.get? b = some o) → h'.get? S = some { cls := .type "list", dict := none, data := .seq acc c, slots := #[] } → ItemsOf (fun i v => items[items.size - 1 - i]? = some v) acc items.size → R (.ok (.ret res)) { s with heap := h', toks := tk }) :
    wpAny (model prog w) A.in1 (Builtin.List.listExtendWith (.ref S) (.ref it) res)
      (fun fin s' => match fin with | .done f => R (.ok f) s' | .again c' => c'.quiet = true ∧ codeAny (model prog w) A c' R s') (fun e s' => R (.error e) s') s := by
  have W := (Walks.listRev (prog := prog) (w := w) (A := A.in1) hh it l hne items).toS
  have notin : S ∉ [it, l] := fun h => by
    rcases List.mem_cons.mp h with e | e
    · exact hSi e
    · exact hSl (List.mem_singleton.mp e)
  have typ : s.TypeIs (.ref it) "list_reverseiterator" := hit.typeIs
  have apart : Builtin.List.listSameRef (.ref S) (.ref it) = false := by simp [Builtin.List.listSameRef, hSi]
  have start : (items.size : Int) - 1 - ((0 : Nat) : Int) = (items.size : Int) - 1 := by omega
  unfold Builtin.List.listExtendWith
  refine wpAny_bind (wpAny_typeOf typ ?_)
  rw [if_neg (by rw [apart] <;> decide)]
  refine wpAny_bind (wpAny_pyIter_revIter hit (wpAny_bind (wpAny_holding ?_)))
  unfold Builtin.List.listLengthHint
  refine wpAny_bind (wpAny_specialOf typ RT.nolen_lri ?_)
  show wpAny _ _ (specialOf (Value.ref it) (Str.ofString "__length_hint__") >>= _) _ _ _
  refine wpAny_bind (wpAny_specialOf typ RT.hint_lri ?_)
  generalize hid : ("list_reverseiterator.__length_hint__" : String) = nm
  wp_delta
  rw [show splitId nm = some ("list_reverseiterator", "__length_hint__") from by subst hid; decide +kernel]
  subst hid
  refine wpAny_bind (wpAny_isInstance (b := true) typ (by rw [isSubtype_type]; kernel_rfl) (wpAny_pure ?_))
  rw [if_neg (by decide)]
  refine wpAny_pure ⟨plainId_quiet F.plain_extend_loop _, codeAny_extend_loopS W hn S notin res items.size 0 _ #[] c0 rfl (Nat.zero_le _) ⟨Nat.zero_le _, by rw [start]; exact hit, hl⟩ hS (ItemsOf.nil _) fun s' acc c hm hS' hacc => ?_⟩
  rw [Moved.eq_with hm]
  refine hR s'.heap s'.toks acc c (fun b o h1 h2 e => hm.heap b o (fun hmem => ?_) e) hS' hacc
  rcases List.mem_cons.mp hmem with e' | hmem
  · exact h1 e'
  · exact h2 (List.mem_singleton.mp hmem)
theorem call_list_rev {Q : Value → Shared → Prop} (hh : A.handled = none) (hit : s.heap.IsRevIter it l ((items.size : Int) - 1)) (hl : s.heap.IsList l items) (hne : l ≠ it) (hn : items.size ≤ sizeLine)
    (hQ : ∀ h' tk acc c, (∀ b o, b ≠ it → s.heap.get? b = some o → h'.get? b = some o) → h'.get? s.heap.objs.size = some { cls := .type "list", dict := none, data := .seq acc c, slots := #[] } → ItemsOf (fun i v => items[items.size - 1 - i]? = some v) acc items.size → Q (.ref s.heap.objs.size) { s with heap := h', toks := tk }) :
    wpAny (model prog w) A (call (.type "list") [.ref it]) Q E s := by
  refine callType_codes (Q₁ := fun obj s1 => obj = .ref s.heap.objs.size ∧ s1 = { s with heap := s.heap.push { cls := .type "list", data := .seq #[] } }) F.called_list (F.typeCall_list_1 _) F.entry_list_init (code_list_new _ ⟨rfl, rfl⟩) fun obj s1 h1 => ?_
  obtain ⟨rfl, rfl⟩ := h1
  have hS : (s.heap.push { cls := .type "list", data := .seq #[] }).get? s.heap.objs.size = some { cls := .type "list", data := .seq #[] } := Heap.get?_push_size _ rfl
  obtain ⟨oi, hoi, _⟩ := id hit
  obtain ⟨ol, hol, _⟩ := id hl
  have hSi : s.heap.objs.size ≠ it := Nat.ne_of_gt (Heap.lt_size hoi)
  have hSl : s.heap.objs.size ≠ l := Nat.ne_of_gt (Heap.lt_size hol)
  refine ⟨⟨_, hS, rfl⟩, F.args_list_init_2 _ _, ?_⟩
  show wpAny _ _ (do let old ← Builtin.List.listItems (.ref s.heap.objs.size); Builtin.List.listUpdate (.ref s.heap.objs.size) (fun _ => #[]); letGo old.toList.reverse; Builtin.List.listExtendWith (.ref s.heap.objs.size) (.ref it) .none) _ _ _
  refine wpAny_bind ?_
  unfold Builtin.List.listItems
  refine wpAny_bind (wpAny_seqItems hS rfl (wpAny_pure ?_))
  show wpAny _ _ (updateSeq s.heap.objs.size (fun _ => #[]) >>= fun _ => letGo (#[] : Array Value).toList.reverse >>= fun _ => Builtin.List.listExtendWith (.ref s.heap.objs.size) (.ref it) .none) _ _ _
  refine wpAny_bind (wpAny_updateSeq hS rfl ?_)
  have hS2 := Heap.get?_update_self (Obj.mapSeq (fun _ => (#[] : Array Value))) hS rfl
  have oth : ∀ b o, b ≠ s.heap.objs.size → s.heap.get? b = some o → ((s.heap.push { cls := .type "list", data := .seq #[] }).update s.heap.objs.size (Obj.mapSeq (fun _ => (#[] : Array Value)))).get? b = some o :=
    fun b o hb e => (Heap.get?_update_other _ _ (Ne.symm hb)).trans (Heap.get?_push_of_some _ e)
  refine wpAny_bind (wpAny_letGo ?_)
  refine ext_rev (A := A.in1) hh (hit.at fun o e => oth it o (Ne.symm hSi) e) (hl.at fun o e => oth l o (Ne.symm hSl) e) hne hn _ hSi hSl .none _ hS2 fun h' tk acc c hk hS' hacc => ?_
  refine ⟨rfl, hQ h' tk acc c (fun b o hb e => ?_) hS' hacc⟩
  have hb2 : b ≠ s.heap.objs.size := Nat.ne_of_lt (Heap.lt_size e)
  exact hk b o hb2 hb (oth b o hb2 e)
end
end K52
namespace K52
open PySem PySem.Spec PyProof.Rows L2
section
variable {X : Cx}
/-- list(reversed(x)), x a list: a new list -/
def tListRev (K : PySem.W.Frag) (te : TE) : TE := fun σ H Q => te σ H fun v H1 => ∃ (a : Addr) (xs : List V), v = .ref a ∧ SqL K H1 a xs ∧ ∀ q, H1 q = none → Q (.ref q) (upd H1 q (.lst xs.reverse))
theorem pe_listRev {e : Expr} {te : TE} {p p2 pos pos2 : Pos} (hc : X.calm = true) (hg : Gl X "list") (hm : X.mg "list" = none) (hg2 : Gl X "reversed") (hm2 : X.mg "reversed" = none) (he : PE X e te)
    (hs : starEach [e] X.env = (false, eval e X.env) :: starEach [] X.env := by rfl)
    (hs2 : starEach [.Call (.Name "reversed" p2) [e] [] pos2] X.env = (false, eval (.Call (.Name "reversed" p2) [e] [] pos2) X.env) :: starEach [] X.env := by rfl) :
    PE X (.Call (.Name "list" p) [.Call (.Name "reversed" p2) [e] [] pos2] [] pos) (tListRev X.K te) := by
  refine ⟨fun pins s σ H Q I h => ?_⟩
  refine Call_ (ld_blt I hg hm (show bootBuiltins "list" = some (Value.type "list") by decide +kernel) (PyProof.Rows.callWith_type1 (args_cons (Call_ (ld_blt I hg2 hm2 PyProof.Rows.boot_reversed (PyProof.Rows.callWith_type1 (args_cons (thn (he.run pins s σ H _ I h) fun u s1 ⟨v, H1, I1, r1, q1⟩ => args_nil ?_) hs) hs rfl))) hs2) hs2 rfl))
  obtain ⟨a, xs, ev, hq, q⟩ := q1
  subst ev
  obtain rfl : u = Value.ref a := r1
  obtain ⟨its, rv, pl, hz⟩ := I1.list hq
  refine call_reversed_list pl.isList (args_nil ?_)
  have kept : ∀ b o, s1.heap.get? b = some o → (s1.heap.push (revObj a ((its.toArray.size : Int) - 1))).get? b = some o := fun b o e => Heap.get?_push_of_some _ e
  have hl := pl.isList
  obtain ⟨ol, hol, _⟩ := id hl
  have hne : a ≠ s1.heap.objs.size := Nat.ne_of_lt (Heap.lt_size hol)
  have hn : its.toArray.size ≤ sizeLine := by rw [List.size_toArray, ← rv.length]; exact hz
  refine call_list_rev (s := { s1 with heap := s1.heap.push (revObj a ((its.toArray.size : Int) - 1)) }) (I1.ok.hd hc) ⟨_, Heap.get?_push_size _ rfl, rfl, rfl⟩ (hl.push _) hne hn fun h' tk acc c hk hS hi => ?_
  have old : ∀ b o, s1.heap.get? b = some o → h'.get? b = some o := fun b o e => hk b o (Nat.ne_of_lt (Heap.lt_size e)) (kept b o e)
  have big : s1.heap.objs.size ≤ (s1.heap.push (revObj a ((its.toArray.size : Int) - 1))).objs.size := by simp [Heap.push]
  refine ⟨.ref _, upd H1 _ (.lst xs.reverse), I1.laid (t' := tk) old big (show ObjOk X.prog X.w _ _ _ (.lst xs.reverse) from ⟨by rw [List.length_reverse]; exact hz, acc.toList, c, RT.vals_rev rv hi, ?_⟩), rfl, q _ (I1.hok.fresh big)⟩
  rw [Array.toArray_toList]
  exact hS
end
end K52
set_option Elab.async false
set_option maxRecDepth 100000
namespace K52
open PySem L2
theorem wordN_rev (s n k : Nat) : ((List.range n).map fun j => k / s ^ j % s).reverse = wordN s n k := by
  apply List.ext_getElem?
  intro j
  by_cases hj : j < n
  · rw [wordN_get s n k j hj, List.getElem?_reverse (by simpa using hj), List.length_map, List.length_range, List.getElem?_map, List.getElem?_range (by omega)]
    rfl
  · rw [List.getElem?_eq_none (by simpa using hj), List.getElem?_eq_none (by rw [wordN_len]; omega)]
theorem small_line {n : Nat} (h : n ≤ 1000000) : n < sizeLine := Nat.lt_of_le_of_lt h (by decide)
/-- a new list -/
def NewL (H : Hp) (xs : List V) (Q : VK) : Prop := ∀ (H' : Hp) (p : Addr), Same H H' → H p = none → H' p = some (.lst xs) → Q (.ref p) H'
section
variable {P : Program} {w : World} {K : PySem.W.Frag} {mg : Str → Option Value} {base : Heap}
abbrev st_word_of : Stmt := top 7
theorem sc_word_of : FnScope ["number", "signs", "many", "left", "word", "k", "sign"] ["number", "signs", "many"] (defScope st_word_of) := ⟨rfl, rfl, rfl, by decide +kernel, rfl, by decide +kernel, by decide +kernel⟩
def sp_word_of : Sp := fun vs H Q _ => ∃ (k s n : Nat), vs = [nv k, nv s, nv n] ∧ 1 ≤ s ∧ s ≤ 9 ∧ n ≤ 1000 ∧ k < s ^ n ∧ NewL H (nvs (wordN s n k)) Q
theorem has_word_of (F : FunC K mg "word_of" 7 ["number", "signs", "many"]) (T : Bt mg) : Has P w K mg base 1 "word_of" ["number", "signs", "many"] sp_word_of := by
  obtain ⟨f, fd, F, C⟩ := F
  refine ⟨f, fd, F.ok sc_word_of (fun vs H Q E h => ?_) (fun cdv A outer s H vs Q E hr h => ?_), C⟩
  · obtain ⟨k, s, n, rfl, _⟩ := h
    rfl
  · obtain ⟨k, s, n, rfl, hs1, hs9, hn, hk, kk⟩ := h
    refine ⟨_, (pss_cons (ps_set (i := 3) sc_word_of.nd rfl (Or.inl rfl) (pv 0))
      (pss_cons (ps_set (i := 4) sc_word_of.nd rfl (Or.inl rfl) (pe_lst pa_nil))
      (pss_cons (ps_for PassesOwn.never rfl (pi_range1 (by rfl) T.range (pa_cons (pv 2) pa_nil)) (pg_name (i := 5) sc_word_of.nd rfl (Or.inl rfl))
        (pss_cons (ps_asg (pe_callB call_divmod (by rfl) T.divmod (by decide +kernel) (pa_cons (pv 3) (pa_cons (pv 1) pa_nil))) (pg_tup (by rfl) (pgs_cons (pg_name (i := 3) sc_word_of.nd rfl (Or.inl rfl)) (pgs_cons (pg_name (i := 6) sc_word_of.nd rfl (Or.inl rfl)) pgs_nil))))
        (pss_one (ps_expr (pe_bm PySem.F.plainAttrs_list PySem.F.slot_list_append PySem.F.type_list_append mt_append (pv 4) (pa_cons (pv 6) pa_nil))))))
      (pss_cons (ps_if (pt_cmpR op_ne (pv 3) pe_int (nomark _))
        (pss_one ps_never)
        pss_nil)
      (pss_one (ps_ret (pe_listRev rfl (by rfl) T.list (by rfl) T.reversed (pv 4)))))))), ?_⟩
    refine ⟨_, rfl, Nat.zero_le _, fun p hp => ?_⟩
    refine ⟨_, rfl, _, rfl, by omega, by omega, for_range0 (n := n) (fun i σ H' => ∃ u v, σ = [some (nv k), some (nv s), some (nv n), some (nv (k / s ^ i)), some (.ref p), u, v] ∧ Same H H' ∧ H' p = some (.lst (nvs ((List.range i).map fun j => k / s ^ j % s))))
      ⟨none, none, by rw [Nat.pow_zero, Nat.div_one]; rfl, sNew hp, upd_same⟩ ?_ ?_⟩
    · rintro i σ H' hi ⟨u, v, rfl, sm, hL⟩
      refine ⟨_, rfl, _, rfl, _, _, rfl, ⟨by omega, by omega⟩, fun q hq => ?_⟩
      have npq : p ≠ q := ne_of_none hL hq
      refine ⟨q, _, rfl, SqT.of upd_same, rfl, _, _, rfl, _, _, rfl, rfl, ?_⟩
      have hL1 := Eq.trans (upd_ne (o := .tup [V.int ((↑(k / s ^ i) : Int) / (s : Int)), V.int ((↑(k / s ^ i) : Int) % (s : Int))]) npq) hL
      refine ⟨_, rfl, .inl ⟨rfl, _, SqL.of hL1⟩, _, rfl, p, _, _, rfl, rfl, hL1, small_line (by rw [nvs_len, List.length_map, List.length_range]; omega), ?_⟩
      refine ⟨some (nv i), some (nv (k / s ^ i % s)), ?_, sUp (sUp sm (sm.free hq)) hp, ?_⟩
      · rw [Nat.pow_succ, ← Nat.div_div_eq_div_mul]
        rfl
      · rw [upd_same, List.range_succ, List.map_append]
        show _ = some (HO.lst (List.map nv (_ ++ [k / s ^ i % s])))
        rw [List.map_append]
        rfl
    · rintro σ H' ⟨u, v, rfl, sm, hL⟩
      refine ⟨_, rfl, rfl, _, rfl, ?_⟩
      rw [Nat.div_eq_of_lt hk]
      refine ifNF rfl ?_
      refine ⟨_, rfl, p, _, rfl, SqL.of hL, fun q hq => ?_⟩
      refine kk _ q (sm.trans (sNew hq)) (sm.free hq) ?_
      rw [upd_same, ← List.map_reverse, wordN_rev]
end
end K52
set_option Elab.async false
set_option maxRecDepth 100000
namespace K52
open PySem L2
/-- a value, whatever was made on the way -/
def Pure (H : Hp) (v : V) (Q : VK) : Prop := ∀ H' : Hp, Same H H' → Q v H'
/-- a new rule -/
def NewR (K : PySem.W.Frag) (H : Hp) (s : Nat) (low : Int) (L : List Nat) (Q : VK) : Prop := ∀ (H' : Hp) (p : Addr), Same H H' → H p = none → RuleAt K H' p s low L → Q (.ref p) H'
theorem pow_le {s n m : Nat} (hs : 2 ≤ s) (h : s ^ n ≤ s ^ m) : n ≤ m := (Nat.pow_le_pow_iff_right (by omega)).mp h
theorem exp_small {s n : Nat} (hs : 2 ≤ s) (h : s ^ n ≤ 256) : n ≤ 8 := by
  have h1 : 2 ^ n ≤ s ^ n := Nat.pow_le_pow_left hs n
  exact (Nat.pow_le_pow_iff_right (a := 2) (by omega)).mp (Nat.le_trans h1 h)
theorem filt_pos {p : Nat → Bool} {i : Nat} (h : p i = true) : (List.range (i + 1)).filter p = (List.range i).filter p ++ [i] := by
  rw [List.range_succ, List.filter_append, List.filter_cons_of_pos h, List.filter_nil]
theorem filt_neg {p : Nat → Bool} {i : Nat} (h : p i = false) : (List.range (i + 1)).filter p = (List.range i).filter p := by
  rw [List.range_succ, List.filter_append, List.filter_cons_of_neg (by rw [h]; decide), List.filter_nil, List.append_nil]
section
variable {P : Program} {w : World} {K : PySem.W.Frag} {mg : Str → Option Value} {base : Heap}
abbrev st_counting : Stmt := top 16
theorem sc_counting : FnScope ["one", "found", "weight", "k"] ["one"] (defScope st_counting) := ⟨rfl, rfl, rfl, by decide +kernel, rfl, by decide +kernel, by decide +kernel⟩
def sp_counting (K : PySem.W.Frag) : Sp := fun vs H Q _ => ∃ (a : Addr) (s n : Nat) (low : Int) (L : List Nat), vs = [.ref a] ∧ RuleAt K H a s low L ∧ L.length = s ^ n ∧ 2 ≤ s ∧ s ≤ 9 ∧ 1 ≤ n ∧ s ^ n ≤ 256 ∧ NewL H ((someP L s n).map fun (j : Nat) => V.int (low + (j : Int))) Q
theorem has_counting (F : FunC K mg "counting" 16 ["one"]) (T : Bt mg) (h_places : Has P w K mg base 2 "places" ["one"] (sp_places K)) (h_counts_at : Has P w K mg base 2 "counts_at" ["table", "signs", "weight"] (sp_counts_at K)) : Has P w K mg base 3 "counting" ["one"] (sp_counting K) := by
  obtain ⟨_, _, G_places, C_places⟩ := h_places
  obtain ⟨_, _, G_counts_at, C_counts_at⟩ := h_counts_at
  obtain ⟨f, fd, F, C⟩ := F
  refine ⟨f, fd, F.ok sc_counting (fun vs H Q E h => ?_) (fun cdv A outer s H vs Q E hr h => ?_), C⟩
  · obtain ⟨a, s, n, low, L, rfl, _⟩ := h
    rfl
  · obtain ⟨a, s, n, low, L, rfl, rA, hl, hs2, hs9, hn, h256, kk⟩ := h
    refine ⟨_, (pss_cons (ps_set (i := 1) sc_counting.nd rfl (Or.inl rfl) (pe_lst pa_nil))
      (pss_cons (ps_set (i := 2) sc_counting.nd rfl (Or.inl rfl) (pe_callB call_len_seq (by rfl) T.len PySem.boot_len (pa_cons (pe_ix ix_tup (pv 0) pe_int (fun _ _ => rfl)) pa_nil)))
      (pss_cons (ps_for PassesOwn.never rfl (pi_range1 (by rfl) T.range (pa_cons (pe_call G_places hr rfl C_places.mg C_places.kp C_places.b .nil pass0 (pa_cons (pv 0) pa_nil)) pa_nil)) (pg_name (i := 3) sc_counting.nd rfl (Or.inl rfl))
        (pss_cons (ps_set (i := 2) sc_counting.nd rfl (Or.inl rfl) (pe_op op_fdiv (pv 2) (pe_ix ix_tup (pv 0) pe_int (fun _ _ => rfl))))
        (pss_one (ps_if (pt_val (pe_call G_counts_at hr rfl C_counts_at.mg C_counts_at.kp C_counts_at.b .nil pass0 (pa_cons (pe_ix ix_tup (pv 0) pe_int (fun _ _ => rfl)) (pa_cons (pe_ix ix_tup (pv 0) pe_int (fun _ _ => rfl)) (pa_cons (pv 2) pa_nil)))))
          (pss_one (ps_expr (pe_bm PySem.F.plainAttrs_list PySem.F.slot_list_append PySem.F.type_list_append mt_append (pv 1) (pa_cons (pe_op op_add (pe_ix ix_tup (pv 0) pe_int (fun _ _ => rfl)) (pv 3)) pa_nil))))
          pss_nil))))
      (pss_one (ps_ret (pv 1)))))), ?_⟩
    have hn8 := exp_small hs2 h256
    refine ⟨Nat.zero_le _, fun p hp => ?_⟩
    have sm0 : Same H (L2.upd H p (.lst [])) := sNew hp
    obtain ⟨t, r1, r2⟩ := rA
    refine ⟨_, rfl, a, _, _, _, rfl, rfl, sT sm0 r1, rfl, t, _, rfl, .inr (sT sm0 r2), ?_⟩
    rw [nvs_len, hl]
    refine ⟨_, rfl, a, s, n, low, L, rfl, ⟨t, sT sm0 r1, sT sm0 r2⟩, hl, hs2, hs9, hn, _, rfl, by omega, by omega, ?_⟩
    refine for_range0 (n := n) (fun i σ H' => ∃ u, σ = [some (.ref a), some (.ref p), some (nv (s ^ (n - i))), u] ∧ Same H H' ∧ H' p = some (.lst (((List.range i).filter fun j => cntAt L s (s ^ (n - 1 - j))).map fun (j : Nat) => V.int (low + (j : Int))))) ⟨none, rfl, sm0, upd_same⟩ ?_ ?_
    · rintro i σ H' hi ⟨u, rfl, sm, hL⟩
      have ed : s ^ (n - i) / s = s ^ (n - 1 - i) := by
        rw [show n - i = (n - 1 - i) + 1 by omega, Nat.pow_succ]
        exact Nat.mul_div_cancel _ (by omega)
      have hw : s ^ (n - 1 - i) ≤ 256 := Nat.le_trans (Nat.pow_le_pow_right (by omega) (by omega)) h256
      refine ⟨_, rfl, _, rfl, a, _, _, _, rfl, rfl, sT sm r1, rfl, _, _, rfl, rfl, ⟨by omega, by omega⟩, ?_⟩
      refine ⟨_, rfl, a, _, _, _, rfl, rfl, sT sm r1, rfl, _, rfl, a, _, _, _, rfl, rfl, sT sm r1, rfl, _, rfl, t, s, s ^ (n - i) / s, L, rfl, sT sm r2, by omega, by omega, hs9, by rw [ed]; exact Nat.pow_pos (by omega), by rw [ed]; omega, _, rfl, ?_⟩
      rw [ed]
      have en : n - (i + 1) = n - 1 - i := by omega
      cases hc : cntAt L s (s ^ (n - 1 - i)) with
      | true =>
        refine iteT ?_
        refine ⟨_, rfl, .inl ⟨rfl, _, SqL.of hL⟩, _, rfl, a, _, _, _, rfl, rfl, sT sm r1, rfl, _, rfl, _, _, rfl, rfl, p, _, _, rfl, rfl, hL, small_line (by have := List.length_filter_le (fun j => cntAt L s (s ^ (n - 1 - j))) (List.range i); rw [List.length_map]; rw [List.length_range] at this; omega), ?_⟩
        refine ⟨some (nv i), by rw [en, ← ed]; rfl, sUp sm hp, ?_⟩
        rw [upd_same, filt_pos (p := fun j => cntAt L s (s ^ (n - 1 - j))) hc, List.map_append]
        rfl
      | false =>
        refine iteF ?_
        refine ⟨some (nv i), by rw [en, ← ed]; rfl, sm, ?_⟩
        rw [hL, filt_neg (p := fun j => cntAt L s (s ^ (n - 1 - j))) hc]
    · rintro σ H' ⟨u, rfl, sm, hL⟩
      exact ⟨_, rfl, kk _ p sm hp hL⟩

abbrev st_sign_within : Stmt := top 17
theorem sc_sign_within : FnScope ["one", "low", "word", "seen", "k", "at"] ["one", "low", "word"] (defScope st_sign_within) := ⟨rfl, rfl, rfl, by decide +kernel, rfl, by decide +kernel, by decide +kernel⟩
def swz (low lo : Int) (ws : List Nat) (i : Nat) : Nat := if 0 ≤ low + (i : Int) - lo ∧ low + (i : Int) - lo < (ws.length : Int) then ws.getD (low + (i : Int) - lo).toNat 0 else 0
def sp_sign_within (K : PySem.W.Frag) : Sp := fun vs H Q _ => ∃ (a b : Addr) (s n : Nat) (low lo : Int) (L ws : List Nat), vs = [.ref a, .int lo, .ref b] ∧ RuleAt K H a s low L ∧ L.length = s ^ n ∧ 2 ≤ s ∧ s ≤ 9 ∧ 1 ≤ n ∧ s ^ n ≤ 256 ∧ SqL K H b (nvs ws) ∧ (∀ d ∈ ws, d < s) ∧
  Pure H (nv (tb L (win s (swz low lo ws) n))) Q
theorem swz_lt {s : Nat} {low lo : Int} {ws : List Nat} (hs : 0 < s) (h : ∀ d ∈ ws, d < s) (i : Nat) : swz low lo ws i < s := by
  unfold swz
  split
  · exact tb_lt hs h _
  · exact hs
theorem has_sign_within (F : FunC K mg "sign_within" 17 ["one", "low", "word"]) (T : Bt mg) (h_places : Has P w K mg base 2 "places" ["one"] (sp_places K)) (h_value : Has P w K mg base 2 "value" ["word", "signs"] (sp_value K)) : Has P w K mg base 3 "sign_within" ["one", "low", "word"] (sp_sign_within K) := by
  obtain ⟨_, _, G_places, C_places⟩ := h_places
  obtain ⟨_, _, G_value, C_value⟩ := h_value
  obtain ⟨f, fd, F, C⟩ := F
  refine ⟨f, fd, F.ok sc_sign_within (fun vs H Q E h => ?_) (fun cdv A outer s H vs Q E hr h => ?_), C⟩
  · obtain ⟨a, b, s, n, low, lo, L, ws, rfl, _⟩ := h
    rfl
  · obtain ⟨a, b, s, n, low, lo, L, ws, rfl, ⟨t, r1, r2⟩, hl, hs2, hs9, hn, h256, hW, hws, kk⟩ := h
    refine ⟨_, (pss_cons (ps_set (i := 3) sc_sign_within.nd rfl (Or.inl rfl) (pe_lst pa_nil))
      (pss_cons (ps_for PassesOwn.never rfl (pi_range1 (by rfl) T.range (pa_cons (pe_call G_places hr rfl C_places.mg C_places.kp C_places.b .nil pass0 (pa_cons (pv 0) pa_nil)) pa_nil)) (pg_name (i := 4) sc_sign_within.nd rfl (Or.inl rfl))
        (pss_cons (ps_set (i := 5) sc_sign_within.nd rfl (Or.inl rfl) (pe_op op_sub (pe_op op_add (pe_ix ix_tup (pv 0) pe_int (fun _ _ => rfl)) (pv 4)) (pv 1)))
        (pss_one (ps_if (pt_chain op_le op_lt pe_int (pv 5) (pe_callB call_len_seq (by rfl) T.len PySem.boot_len (pa_cons (pv 2) pa_nil)))
          (pss_one (ps_expr (pe_bm PySem.F.plainAttrs_list PySem.F.slot_list_append PySem.F.type_list_append mt_append (pv 3) (pa_cons (pe_ix ix_list (pv 2) (pv 5) (fun _ _ => rfl)) pa_nil))))
          (pss_one (ps_expr (pe_bm PySem.F.plainAttrs_list PySem.F.slot_list_append PySem.F.type_list_append mt_append (pv 3) (pa_cons pe_int pa_nil))))))))
      (pss_one (ps_ret (pe_ix ix_tup (pe_ix ix_tup (pv 0) pe_int (fun _ _ => rfl)) (pe_call G_value hr rfl C_value.mg C_value.kp C_value.b .nil pass0 (pa_cons (pv 3) (pa_cons (pe_ix ix_tup (pv 0) pe_int (fun _ _ => rfl)) pa_nil))) (fun _ _ => rfl)))))), ?_⟩
    have hn8 := exp_small hs2 h256
    refine ⟨Nat.zero_le _, fun p hp => ?_⟩
    have sm0 : Same H (L2.upd H p (.lst [])) := sNew hp
    refine ⟨_, rfl, a, s, n, low, L, rfl, ⟨t, sT sm0 r1, sT sm0 r2⟩, hl, hs2, hs9, hn, _, rfl, by omega, by omega, ?_⟩
    refine for_range0 (n := n) (fun i σ H' => ∃ u v, σ = [some (.ref a), some (.int lo), some (.ref b), some (.ref p), u, v] ∧ Same H H' ∧ H' p = some (.lst (nvs ((List.range i).map (swz low lo ws))))) ⟨none, none, rfl, sm0, upd_same⟩ ?_ ?_
    · rintro i σ H' hi ⟨u, v, rfl, sm, hL⟩
      refine ⟨_, rfl, a, _, _, _, rfl, rfl, sT sm r1, rfl, _, rfl, _, _, rfl, rfl, _, rfl, _, _, rfl, rfl, _, rfl, _, _, rfl, rfl, _, rfl, ?_⟩
      have fin : ∀ x : Nat, x = swz low lo ws i → ∃ u v, ([some (V.ref a), some (V.int lo), some (V.ref b), some (V.ref p), some (nv i), some (V.int (low + (i : Int) - lo))] : L2.St) = [some (.ref a), some (.int lo), some (.ref b), some (.ref p), u, v] ∧ Same H (L2.upd H' p (.lst (nvs ((List.range i).map (swz low lo ws)) ++ [nv x]))) ∧ (L2.upd H' p (.lst (nvs ((List.range i).map (swz low lo ws)) ++ [nv x]))) p = some (.lst (nvs ((List.range (i + 1)).map (swz low lo ws)))) := by
        rintro x rfl
        refine ⟨_, _, rfl, sUp sm hp, ?_⟩
        rw [upd_same, List.range_succ, List.map_append]
        show _ = some (HO.lst (List.map nv (_ ++ [swz low lo ws i])))
        rw [List.map_append]
        rfl
      have len : (nvs ((List.range i).map (swz low lo ws))).length < sizeLine := small_line (by rw [nvs_len, List.length_map, List.length_range]; omega)
      have els : ¬ (0 ≤ low + (i : Int) - lo ∧ low + (i : Int) - lo < (ws.length : Int)) → (0 : Nat) = swz low lo ws i := fun h => by
        unfold swz
        rw [if_neg h]
      refine if2 (fun h1 => ?_) (fun h1 => ?_)
      · refine ⟨_, rfl, b, _, rfl, .inl (sm.seq hW), _, _, rfl, rfl, _, rfl, ?_⟩
        rw [nvs_len]
        refine if2 (fun h2 => ?_) (fun h2 => ?_)
        · have hj : (low + (i : Int) - lo).toNat < ws.length := by omega
          refine ⟨_, rfl, .inl ⟨rfl, _, SqL.of hL⟩, _, rfl, _, rfl, b, _, _, _, rfl, rfl, sm.seq hW, at_of (j := (low + (i : Int) - lo).toNat) (by omega) (tb_get hj), p, _, _, rfl, rfl, hL, len, ?_⟩
          refine fin _ ?_
          unfold swz
          rw [if_pos ⟨h1, h2⟩]
          rfl
        · refine ⟨_, rfl, .inl ⟨rfl, _, SqL.of hL⟩, p, _, _, rfl, rfl, hL, len, ?_⟩
          exact fin 0 (els fun q => h2 q.2)
      · refine ⟨_, rfl, ?_⟩
        refine iteF ?_
        refine ⟨_, rfl, .inl ⟨rfl, _, SqL.of hL⟩, p, _, _, rfl, rfl, hL, len, ?_⟩
        exact fin 0 (els fun q => h1 q.1)
    · rintro σ H' ⟨u, v, rfl, sm, hL⟩
      refine ⟨_, rfl, a, _, _, _, rfl, rfl, sT sm r1, rfl, _, rfl, _, rfl, a, _, _, _, rfl, rfl, sT sm r1, rfl, p, s, _, rfl, hs9, SqL.of hL, t, _, _, _, rfl, rfl, sT sm r2, atI_nat (tb_get ?_), ?_⟩
      · rw [win_val, hl]
        exact win_lt s n fun i _ => swz_lt (by omega) hws i
      · rw [win_val]
        exact kk _ sm
end
end K52
set_option Elab.async false
set_option maxRecDepth 100000
/-! Data of ints: equality. -/
namespace K52
open PySem L2
abbrev dl (l : List Int) : List PyData := l.map PyData.int
theorem dp_ints {K : PySem.W.Frag} {H : Hp} : ∀ l : List Int, DpAll K H (l.map V.int) (dl l)
  | [] => .nil
  | i :: l => .cons (.int i) (dp_ints l)
theorem lay_ints : ∀ l : List Int, PyData.canLayAll0 (dl l) = true
  | [] => rfl
  | i :: l => by
    show (PyData.canLay0 (.int i) && PyData.canLayAll0 (dl l)) = true
    rw [lay_ints l]
    rfl
theorem depth_ints : ∀ l : List Int, PyData.depthAll (dl l) ≤ 1
  | [] => by decide
  | i :: l => by
    have := depth_ints l
    show PyData.depthAll (.int i :: dl l) ≤ 1
    simp only [PyData.depthAll, PyData.depth]
    omega
theorem shaped_list (l : List Int) : SeqAt.shaped (.list (dl l)) = true := by
  have h1 := lay_ints l
  have h2 := depth_ints l
  unfold SeqAt.shaped
  rw [Bool.and_eq_true, decide_eq_true_eq]
  refine ⟨by simp only [PyData.canLay0]; exact h1, ?_⟩
  simp only [PyData.depth]
  omega
theorem shaped_tup (l : List Int) : SeqAt.shaped (.tuple (dl l)) = true := by
  have h1 := lay_ints l
  have h2 := depth_ints l
  unfold SeqAt.shaped
  rw [Bool.and_eq_true, decide_eq_true_eq]
  refine ⟨by simp only [PyData.canLay0]; exact h1, ?_⟩
  simp only [PyData.depth]
  omega
theorem shaped_two (l m : List Int) : SeqAt.shaped (.tuple [.list (dl l), .list (dl m)]) = true := by
  have h1 := lay_ints l
  have h2 := depth_ints l
  have h3 := lay_ints m
  have h4 := depth_ints m
  unfold SeqAt.shaped
  rw [Bool.and_eq_true, decide_eq_true_eq]
  refine ⟨by simp only [PyData.canLay0, PyData.canLayAll0, h1, h3]; rfl, ?_⟩
  simp only [PyData.depth, PyData.depthAll]
  omega
theorem eqv_ints : ∀ l m : List Int, PyData.eqvAll (dl l) (dl m) = decide (l = m)
  | [], [] => rfl
  | [], _ :: _ => rfl
  | _ :: _, [] => rfl
  | i :: l, j :: m => by
    show (PyData.eqv (.int i) (.int j) && PyData.eqvAll (dl l) (dl m)) = _
    rw [eqv_ints l m]
    simp only [PyData.eqv]
    by_cases h : i = j <;> by_cases h2 : l = m <;> simp [h, h2]
theorem eqv_list (l m : List Int) : PyData.eqv (.list (dl l)) (.list (dl m)) = decide (l = m) := by
  simp only [PyData.eqv]
  exact eqv_ints l m
theorem eqv_tup (l m : List Int) : PyData.eqv (.tuple (dl l)) (.tuple (dl m)) = decide (l = m) := by
  simp only [PyData.eqv]
  exact eqv_ints l m
theorem eqv_two (l m l' m' : List Int) : PyData.eqv (.tuple [.list (dl l), .list (dl m)]) (.tuple [.list (dl l'), .list (dl m')]) = (decide (l = l') && decide (m = m')) := by
  simp only [PyData.eqv, PyData.eqvAll]
  rw [eqv_ints, eqv_ints, Bool.and_true]
theorem dp_list {K : PySem.W.Frag} {H : Hp} {a : Addr} {l : List Int} (h : SqL K H a (l.map V.int)) : Dp K H (.ref a) (.list (dl l)) := .lst h (dp_ints l)
theorem dp_tup {K : PySem.W.Frag} {H : Hp} {a : Addr} {l : List Int} (h : SqT K H a (l.map V.int)) : Dp K H (.ref a) (.tuple (dl l)) := .tup h (dp_ints l)
end K52
set_option Elab.async false
set_option maxRecDepth 100000
namespace K52
open PySem L2
theorem atI_m1 {α : Type} {xs : List α} {v : α} (h : xs.getLast? = some v) : atI xs (-1) = some v := by
  have hne : xs ≠ [] := fun e => by rw [e] at h; cases h
  have : xs = xs.dropLast ++ [v] := by
    have := List.dropLast_concat_getLast hne
    rw [List.getLast?_eq_some_getLast hne] at h
    cases h
    exact this.symm
  rw [this]
  exact atI_last _ _
theorem frameP_len (L : List Nat) (s n : Nat) (low : Int) : (frameP L s n low).2.2.length = s ^ (frameP L s n low).2.1 := by
  have h : (narrowP L s n low).2.2.length = s ^ (narrowP L s n low).2.1 := by
    unfold narrowP
    split <;> exact bywin_len _ _ _ _ _
  unfold frameP
  show (if (narrowP L s n low).2.1 = 1 then _ else _ : Int × Nat × List Nat).2.2.length = s ^ (if (narrowP L s n low).2.1 = 1 then _ else _ : Int × Nat × List Nat).2.1
  split
  · exact bywin_len _ _ _ _ _
  · exact h
theorem narrowP_pos (L : List Nat) (s n : Nat) (low : Int) : 1 ≤ (narrowP L s n low).2.1 ∧ (1 ≤ n → (narrowP L s n low).2.1 ≤ n) := by
  unfold narrowP
  split
  · exact ⟨Nat.le_refl _, fun h => h⟩
  · rename_i f r e
    obtain ⟨_, h2, _, h4, _, h6⟩ := filter_ends e
    exact ⟨Nat.succ_le_succ (Nat.zero_le _), fun _ => by show (f :: r).getLastD 0 - f + 1 ≤ n; omega⟩
theorem narrowP_len (L : List Nat) (s n : Nat) (low : Int) : (narrowP L s n low).2.2.length = s ^ (narrowP L s n low).2.1 := by
  unfold narrowP
  split <;> exact bywin_len _ _ _ _ _
theorem swz_bywin {L : List Nat} {s n q k : Nat} {low lo : Int} : tb L (win s (swz low lo (wordN s q k)) n) = tb L (win s (fun i => if lo - low ≤ (i : Int) ∧ (i : Int) < lo - low + q then k / s ^ (q - 1 - ((i : Int) - (lo - low)).toNat) % s else 0) n) := by
  congr 1
  refine win_congr s n fun i hi => ?_
  unfold swz
  rw [wordN_len]
  by_cases h : 0 ≤ low + (i : Int) - lo ∧ low + (i : Int) - lo < (q : Int)
  · rw [if_pos h, if_pos (by omega), List.getD_eq_getElem?_getD, wordN_get s q k _ (by omega)]
    show k / s ^ (q - 1 - (low + (i : Int) - lo).toNat) % s = _
    congr 4
    omega
  · rw [if_neg h, if_neg (by omega)]
section
variable {P : Program} {w : World} {K : PySem.W.Frag} {mg : Str → Option Value} {base : Heap}
abbrev st_by_window : Stmt := top 18
theorem sc_by_window : FnScope ["one", "low", "many", "signs", "table", "k"] ["one", "low", "many"] (defScope st_by_window) := ⟨rfl, rfl, rfl, by decide +kernel, rfl, by decide +kernel, by decide +kernel⟩
def sp_by_window (K : PySem.W.Frag) : Sp := fun vs H Q _ => ∃ (a : Addr) (s n q : Nat) (low lo : Int) (L : List Nat), vs = [.ref a, .int lo, nv q] ∧ RuleAt K H a s low L ∧ L.length = s ^ n ∧ 2 ≤ s ∧ s ≤ 9 ∧ 1 ≤ n ∧ s ^ n ≤ 256 ∧ s ^ q ≤ 256 ∧ NewR K H s lo (bywin L s n (lo - low) q) Q
theorem has_by_window (F : FunC K mg "by_window" 18 ["one", "low", "many"]) (T : Bt mg) (h_power : Has P w K mg base 3 "power" ["signs", "many"] sp_power) (h_sign_within : Has P w K mg base 3 "sign_within" ["one", "low", "word"] (sp_sign_within K)) (h_word_of : Has P w K mg base 3 "word_of" ["number", "signs", "many"] sp_word_of) : Has P w K mg base 4 "by_window" ["one", "low", "many"] (sp_by_window K) := by
  obtain ⟨_, _, G_power, C_power⟩ := h_power
  obtain ⟨_, _, G_sign_within, C_sign_within⟩ := h_sign_within
  obtain ⟨_, _, G_word_of, C_word_of⟩ := h_word_of
  obtain ⟨f, fd, F, C⟩ := F
  refine ⟨f, fd, F.ok sc_by_window (fun vs H Q E h => ?_) (fun cdv A outer s H vs Q E hr h => ?_), C⟩
  · obtain ⟨a, s, n, q, low, lo, L, rfl, _⟩ := h
    rfl
  · obtain ⟨a, s, n, q, low, lo, L, rfl, rA, hl, hs2, hs9, hn, h256, hq, kk⟩ := h
    refine ⟨_, (pss_cons (ps_set (i := 3) sc_by_window.nd rfl (Or.inr rfl) (pe_ix ix_tup (pv 0) pe_int (fun _ _ => rfl)))
      (pss_cons (ps_setLc (i := 4) (own := [("k", 5)]) (g := gName 5) (tt := tYes) (by rfl) sc_by_window.nd rfl rfl (sw_true rfl rfl rfl (by decide +kernel)) (pi_range1 (by rfl) T.range (pa_cons (pe_call G_power hr rfl C_power.mg C_power.kp C_power.b .nil pass0 (pa_cons (pv 3) (pa_cons (pv 2) pa_nil))) pa_nil)) (blkOk_by (own := [("k", 5)]) (N := ["one", "low", "many", "signs", "table", "k"]) (sc := defScope st_by_window) (by decide +kernel)) (fun _ _ _ _ _ => pg_name (i := 5) sc_by_window.nd rfl (Or.inl rfl)) (fun _ _ _ _ _ => pts_nil) (fun _ _ _ _ _ => (pe_call G_sign_within hr rfl C_sign_within.mg C_sign_within.kp C_sign_within.b .nil pass0 (pa_cons (pv 0) (pa_cons (pv 1) (pa_cons (pe_call G_word_of hr rfl C_word_of.mg C_word_of.kp C_word_of.b .nil pass0 (pa_cons (pv 5) (pa_cons (pv 3) (pa_cons (pv 2) pa_nil)))) pa_nil))))))
      (pss_one (ps_ret (pe_tup (pa_cons (pv 3) (pa_cons (pv 1) (pa_cons (pe_callTy call_tuple_of (by rfl) T.tuple (by decide +kernel) (pa_cons (pv 4) pa_nil)) pa_nil)))))))), ?_⟩
    have hq8 := exp_small hs2 hq
    obtain ⟨t, r1, r2⟩ := id rA
    refine ⟨_, rfl, a, _, _, _, rfl, rfl, r1, rfl, ?_⟩
    refine ⟨_, rfl, _, rfl, s, q, rfl, hs9, by omega, _, rfl, by omega, by omega, fun D hD => ?_⟩
    refine lc_range0 (n := s ^ q) (fun i H' => Same H H' ∧ H' D = some (.lst (nvs ((List.range i).map fun k => tb L (win s (swz low lo (wordN s q k)) n))))) ⟨sNew hD, upd_same⟩ ?_ ?_
    · rintro i H' hi ⟨sm, hL⟩
      refine ⟨rfl, _, rfl, _, rfl, _, rfl, _, rfl, _, rfl, i, s, q, rfl, by omega, hs9, by omega, hi, fun H1 p s1 np hp => ?_⟩
      refine ⟨a, p, s, n, low, lo, L, _, rfl, rA.same (sm.trans s1), hl, hs2, hs9, hn, h256, SqL.of hp, wordN_lt s (by omega) q i, fun H2 s2 => ?_⟩
      have hL2 := s2 _ _ (s1 _ _ hL)
      refine ⟨_, hL2, small_line (by rw [nvs_len, List.length_map, List.length_range]; omega), sUp (sm.trans (s1.trans s2)) hD, ?_⟩
      rw [upd_same, List.range_succ, List.map_append]
      show _ = some (HO.lst (List.map nv (_ ++ [_])))
      rw [List.map_append]
      rfl
    · rintro H' ⟨sm, hL⟩
      refine ⟨_, rfl, _, rfl, _, rfl, D, _, rfl, .inl ⟨SqL.of hL, fun u hu => ⟨by show 3 ≤ sizeLine; decide, fun p hp => ?_⟩⟩⟩
      have npu : u ≠ p := fun e => by rw [← e, upd_same] at hp; cases hp
      refine kk _ p (sUp (sUp sm (sm.free hu)) ?_) ?_ ⟨u, SqT.of upd_same, SqT.of (by rw [upd_ne npu, upd_same]; congr 3; exact (bywin_list L s n (lo - low) q fun k _ => swz_bywin.symm).symm)⟩
      · exact sm.free (by rw [upd_ne (Ne.symm npu)] at hp; exact hp)
      · exact sm.free (by rw [upd_ne (Ne.symm npu)] at hp; exact hp)
end
end K52
set_option Elab.async false
set_option maxRecDepth 100000
namespace K52
open PySem L2
section
variable {P : Program} {w : World} {K : PySem.W.Frag} {mg : Str → Option Value} {base : Heap}
abbrev st_narrow : Stmt := top 19
theorem sc_narrow : FnScope ["one", "some"] ["one"] (defScope st_narrow) := ⟨rfl, rfl, rfl, by decide +kernel, rfl, by decide +kernel, by decide +kernel⟩
def sp_narrow (K : PySem.W.Frag) : Sp := fun vs H Q _ => ∃ (a : Addr) (s n : Nat) (low : Int) (L : List Nat), vs = [.ref a] ∧ RuleAt K H a s low L ∧ L.length = s ^ n ∧ 2 ≤ s ∧ s ≤ 9 ∧ 1 ≤ n ∧ s ^ n ≤ 256 ∧ NewR K H s (narrowP L s n low).1 (narrowP L s n low).2.2 Q
theorem NewR.same {H H1 : Hp} {s : Nat} {low : Int} {L : List Nat} {Q : VK} (k : NewR K H s low L Q) (e : Same H H1) : NewR K H1 s low L Q := fun H' p h1 h2 h3 => k H' p (e.trans h1) (e.free h2) h3
theorem NewL.same {H H1 : Hp} {xs : List V} {Q : VK} (k : NewL H xs Q) (e : Same H H1) : NewL H1 xs Q := fun H' p h1 h2 h3 => k H' p (e.trans h1) (e.free h2) h3
theorem has_narrow (F : FunC K mg "narrow" 19 ["one"]) (h_counting : Has P w K mg base 4 "counting" ["one"] (sp_counting K)) (h_by_window : Has P w K mg base 4 "by_window" ["one", "low", "many"] (sp_by_window K)) : Has P w K mg base 5 "narrow" ["one"] (sp_narrow K) := by
  obtain ⟨_, _, G_counting, C_counting⟩ := h_counting
  obtain ⟨_, _, G_by_window, C_by_window⟩ := h_by_window
  obtain ⟨f, fd, F, C⟩ := F
  refine ⟨f, fd, F.ok sc_narrow (fun vs H Q E h => ?_) (fun cdv A outer s H vs Q E hr h => ?_), C⟩
  · obtain ⟨a, s, n, low, L, rfl, _⟩ := h
    rfl
  · obtain ⟨a, s, n, low, L, rfl, rA, hl, hs2, hs9, hn, h256, kk⟩ := h
    refine ⟨_, (pss_cons (ps_set (i := 1) sc_narrow.nd rfl (Or.inl rfl) (pe_call G_counting hr rfl C_counting.mg C_counting.kp C_counting.b .nil pass0 (pa_cons (pv 0) pa_nil)))
      (pss_cons (ps_if (pt_cmpR (op_eqD hr.units) (pv 1) (pe_lst pa_nil) (nomark _))
        (pss_one (ps_ret (pe_call G_by_window hr rfl C_by_window.mg C_by_window.kp C_by_window.b .nil pass0 (pa_cons (pv 0) (pa_cons pe_int (pa_cons pe_int pa_nil))))))
        pss_nil)
      (pss_one (ps_ret (pe_call G_by_window hr rfl C_by_window.mg C_by_window.kp C_by_window.b .nil pass0 (pa_cons (pv 0) (pa_cons (pe_ix ix_list (pv 1) pe_int (fun _ _ => rfl)) (pa_cons (pe_op op_add (pe_op op_sub (pe_ix ix_list (pv 1) (pe_un un_neg pe_int) (fun _ _ => rfl)) (pe_ix ix_list (pv 1) pe_int (fun _ _ => rfl))) pe_int) pa_nil)))))))), ?_⟩
    refine ⟨_, rfl, a, s, n, low, L, rfl, rA, hl, hs2, hs9, hn, h256, fun H1 p s1 np hp => ?_⟩
    refine ⟨_, rfl, Nat.zero_le _, fun q hq => ?_⟩
    have npq : p ≠ q := ne_of_none hp hq
    have s2 : Same H (L2.upd H1 q (.lst [])) := s1.trans (sNew hq)
    have hp2 : (L2.upd H1 q (.lst [])) p = some (.lst ((someP L s n).map fun (j : Nat) => V.int (low + (j : Int)))) := by rw [upd_ne npq]; exact hp
    have em : ((someP L s n).map fun (j : Nat) => V.int (low + (j : Int))) = ((someP L s n).map fun (j : Nat) => low + (j : Int)).map V.int := by rw [List.map_map]; rfl
    refine ⟨_, _, dp_list (l := (someP L s n).map fun (j : Nat) => low + (j : Int)) (by rw [← em]; exact SqL.of hp2), dp_list (l := []) (SqL.of upd_same), shaped_list _, shaped_list _, _, rfl, ?_⟩
    rw [eqv_list]
    cases e : someP L s n with
    | nil =>
      refine ifT (by rfl) ?_
      have k2 := kk.same s2
      have e1 : narrowP L s n low = (0, 1, bywin L s n (0 - low) 1) := by unfold narrowP; rw [e]
      rw [e1] at k2
      exact ⟨_, rfl, a, s, n, 1, low, 0, L, rfl, rA.same s2, hl, hs2, hs9, hn, h256, by rw [Nat.pow_one]; omega, k2⟩
    | cons f0 r =>
      refine ifF (by simp) ?_
      obtain ⟨_, h2, _, h4, _, h6⟩ := filter_ends e
      have k2 := kk.same s2
      have e1 : narrowP L s n low = (low + f0, (f0 :: r).getLastD 0 - f0 + 1, bywin L s n f0 ((f0 :: r).getLastD 0 - f0 + 1)) := by unfold narrowP; rw [e]
      rw [e1] at k2
      rw [e] at hp2
      have hlast : (((f0 :: r).map fun (j : Nat) => V.int (low + (j : Int))).getLast?) = some (V.int (low + ((f0 :: r).getLastD 0 : Nat))) := by
        rw [List.getLast?_map, List.getLastD_eq_getLast?, List.getLast?_eq_some_getLast (by simp)]
        rfl
      have hfirst : atI ((f0 :: r).map fun (j : Nat) => V.int (low + (j : Int))) 0 = some (V.int (low + (f0 : Int))) := atI_nat (j := 0) rfl
      have hpw : s ^ ((f0 :: r).getLastD 0 - f0 + 1) ≤ 256 := Nat.le_trans (Nat.pow_le_pow_right (by omega) (by omega)) h256
      refine ⟨_, rfl, _, rfl, p, _, _, _, rfl, rfl, SqL.of hp2, hfirst, _, rfl, _, rfl, p, _, _, _, rfl, rfl, SqL.of hp2, atI_m1 hlast, _, rfl, p, _, _, _, rfl, rfl, SqL.of hp2, hfirst, _, _, rfl, rfl, _, _, rfl, rfl, ?_⟩
      refine ⟨a, s, n, (f0 :: r).getLastD 0 - f0 + 1, low, low + f0, L, ?_, rA.same s2, hl, hs2, hs9, hn, h256, hpw, ?_⟩
      · show [V.ref a, V.int (low + (f0 : Int)), V.int (low + ((f0 :: r).getLastD 0 : Nat) - (low + (f0 : Int)) + 1)] = _
        rw [show low + (((f0 :: r).getLastD 0 : Nat) : Int) - (low + (f0 : Int)) + 1 = (((f0 :: r).getLastD 0 - f0 + 1 : Nat) : Int) by omega]
      · rw [show low + (f0 : Int) - low = (f0 : Int) by omega]
        exact k2

abbrev st_widened : Stmt := top 20
theorem sc_widened : FnScope ["one", "low", "high", "at"] ["one", "low", "high"] (defScope st_widened) := ⟨rfl, rfl, rfl, by decide +kernel, rfl, by decide +kernel, by decide +kernel⟩
def sp_widened (K : PySem.W.Frag) : Sp := fun vs H Q _ => ∃ (a : Addr) (s : Nat) (low : Int) (L : List Nat), vs = [.ref a, .int low, .int (low + 1)] ∧ RuleAt K H a s low L ∧ L.length = s ^ 1 ∧ 2 ≤ s ∧ s ≤ 9 ∧ NewR K H s low (bywin L s 1 0 2) Q
theorem has_widened (F : FunC K mg "widened" 20 ["one", "low", "high"]) (h_counting : Has P w K mg base 4 "counting" ["one"] (sp_counting K)) (h_fits : Has P w K mg base 4 "fits" ["signs", "many"] sp_fits) (h_by_window : Has P w K mg base 4 "by_window" ["one", "low", "many"] (sp_by_window K)) : Has P w K mg base 5 "widened" ["one", "low", "high"] (sp_widened K) := by
  obtain ⟨_, _, G_counting, C_counting⟩ := h_counting
  obtain ⟨_, _, G_fits, C_fits⟩ := h_fits
  obtain ⟨_, _, G_by_window, C_by_window⟩ := h_by_window
  obtain ⟨f, fd, F, C⟩ := F
  refine ⟨f, fd, F.ok sc_widened (fun vs H Q E h => ?_) (fun cdv A outer s H vs Q E hr h => ?_), C⟩
  · obtain ⟨a, s, low, L, rfl, _⟩ := h
    rfl
  · obtain ⟨a, s, low, L, rfl, rA, hl, hs2, hs9, kk⟩ := h
    refine ⟨_, (pss_cons (ps_if (pt_cmpR op_gt (pv 1) (pv 2) (nomark _))
        (pss_one ps_never)
        pss_nil)
      (pss_cons (ps_for PassesOwn.never rfl (pi_list (pe_call G_counting hr rfl C_counting.mg C_counting.kp C_counting.b .nil pass0 (pa_cons (pv 0) pa_nil))) (pg_name (i := 3) sc_widened.nd rfl (Or.inl rfl))
        (pss_one (ps_if (PW.pt (pw_or (pt_cmpR op_lt (pv 3) (pv 1) (nomark _)) (pw_or1 (pt_cmpR op_gt (pv 3) (pv 2) (nomark _)))))
          (pss_one ps_never)
          pss_nil)))
      (pss_cons (ps_if (pt_not (pt_val (pe_call G_fits hr rfl C_fits.mg C_fits.kp C_fits.b .nil pass0 (pa_cons (pe_ix ix_tup (pv 0) pe_int (fun _ _ => rfl)) (pa_cons (pe_op op_add (pe_op op_sub (pv 2) (pv 1)) pe_int) pa_nil)))))
        (pss_one ps_never)
        pss_nil)
      (pss_one (ps_ret (pe_call G_by_window hr rfl C_by_window.mg C_by_window.kp C_by_window.b .nil pass0 (pa_cons (pv 0) (pa_cons (pv 1) (pa_cons (pe_op op_add (pe_op op_sub (pv 2) (pv 1)) pe_int) pa_nil))))))))), ?_⟩
    refine ⟨_, rfl, _, rfl, _, _, rfl, rfl, _, rfl, ?_⟩
    refine ifF (by omega) ?_
    have h256 : s ^ 1 ≤ 256 := by rw [Nat.pow_one]; omega
    refine ⟨_, rfl, a, s, 1, low, L, rfl, rA, hl, hs2, hs9, Nat.le_refl _, h256, fun H1 p s1 np hp => ?_⟩
    refine ⟨p, rfl, ⟨_, SqL.of hp⟩, for_list (K := K) (a := p) (xs := (someP L s 1).map fun (j : Nat) => V.int (low + (j : Int))) (fun i σ H' => ∃ u, σ = [some (.ref a), some (.int low), some (.int (low + 1)), u] ∧ H' = H1) ⟨none, rfl, rfl⟩ (fun i σ H' _ ⟨_, _, e⟩ => e ▸ SqL.of hp) ?_ ?_⟩
    · rintro i x σ H' hi ⟨u, rfl, rfl⟩
      rw [List.getElem?_map] at hi
      cases e : (someP L s 1)[i]? with
      | none => rw [e] at hi; cases hi
      | some j =>
        rw [e] at hi
        cases hi
        have hj : j < 1 := List.mem_range.mp (List.mem_filter.mp (List.mem_of_getElem? e)).1
        refine ⟨_, rfl, _, rfl, _, _, rfl, rfl, _, rfl, ?_⟩
        refine ifF (by omega) ?_
        refine ⟨_, rfl, _, rfl, _, _, rfl, rfl, _, rfl, ?_⟩
        refine ifF (by omega) ?_
        exact ⟨_, rfl, rfl⟩
    · rintro σ H' ⟨u, rfl, rfl⟩
      obtain ⟨t, r1, r2⟩ := rA.same s1
      have e2 : low + 1 - low + 1 = (2 : Int) := by omega
      refine ⟨_, rfl, a, _, _, _, rfl, rfl, r1, rfl, _, rfl, _, rfl, _, _, rfl, rfl, _, _, rfl, rfl, s, by rw [← e2]; rfl, hs9, _, rfl, ?_⟩
      refine iteF ?_
      have h81 : s ^ 2 ≤ 256 := by have := Nat.pow_le_pow_left hs9 2; omega
      refine ⟨_, rfl, _, rfl, _, rfl, _, rfl, _, _, rfl, rfl, _, _, rfl, rfl, a, s, 1, 2, low, low, L, ?_, ⟨t, r1, r2⟩, hl, hs2, hs9, Nat.le_refl _, h256, h81, ?_⟩
      · show [V.ref a, V.int low, V.int (low + 1 - low + 1)] = _
        rw [e2]
        rfl
      · rw [Int.sub_self]
        exact kk.same s1

abbrev st_frame : Stmt := top 23
theorem sc_frame : FnScope ["one", "found"] ["one"] (defScope st_frame) := ⟨rfl, rfl, rfl, by decide +kernel, rfl, by decide +kernel, by decide +kernel⟩
/-- a small rule -/
def Small (L : List Nat) (s n : Nat) (low : Int) : Prop := L.length = s ^ n ∧ 2 ≤ s ∧ s ≤ 9 ∧ 1 ≤ n ∧ s ^ n ≤ 256 ∧ s ^ ((frameP L s n low).2.1 - 1) ≤ 9
def sp_frame (K : PySem.W.Frag) : Sp := fun vs H Q _ => ∃ (a : Addr) (s n : Nat) (low : Int) (L : List Nat), vs = [.ref a] ∧ RuleAt K H a s low L ∧ Small L s n low ∧ NewR K H s (frameP L s n low).1 (frameP L s n low).2.2 Q
theorem has_frame (F : FunC K mg "frame" 23 ["one"]) (M : Gb mg) (h_narrow : Has P w K mg base 5 "narrow" ["one"] (sp_narrow K)) (h_places : Has P w K mg base 5 "places" ["one"] (sp_places K)) (h_widened : Has P w K mg base 5 "widened" ["one", "low", "high"] (sp_widened K)) (h_power : Has P w K mg base 5 "power" ["signs", "many"] sp_power) : Has P w K mg base 6 "frame" ["one"] (sp_frame K) := by
  obtain ⟨_, _, G_narrow, C_narrow⟩ := h_narrow
  obtain ⟨_, _, G_places, C_places⟩ := h_places
  obtain ⟨_, _, G_widened, C_widened⟩ := h_widened
  obtain ⟨_, _, G_power, C_power⟩ := h_power
  obtain ⟨f, fd, F, C⟩ := F
  obtain ⟨tm, hm⟩ := M.nodes
  refine ⟨f, fd, F.ok sc_frame (fun vs H Q E h => ?_) (fun cdv A outer s H vs Q E hr h => ?_), C⟩
  · obtain ⟨a, s, n, low, L, rfl, _⟩ := h
    rfl
  · obtain ⟨a, s, n, low, L, rfl, rA, ⟨hl, hs2, hs9, hn, h256, h9⟩, kk⟩ := h
    refine ⟨_, (pss_cons (ps_set (i := 1) sc_frame.nd rfl (Or.inl rfl) (pe_call G_narrow hr rfl C_narrow.mg C_narrow.kp C_narrow.b .nil pass0 (pa_cons (pv 0) pa_nil)))
      (pss_cons (ps_if (pt_cmpR op_eq (pe_call G_places hr rfl C_places.mg C_places.kp C_places.b .nil pass0 (pa_cons (pv 1) pa_nil)) pe_int (nomark _))
        (pss_one (ps_set (i := 1) sc_frame.nd rfl (Or.inl rfl) (pe_call G_widened hr rfl C_widened.mg C_widened.kp C_widened.b .nil pass0 (pa_cons (pv 1) (pa_cons (pe_ix ix_tup (pv 1) pe_int (fun _ _ => rfl)) (pa_cons (pe_op op_add (pe_ix ix_tup (pv 1) pe_int (fun _ _ => rfl)) pe_int) pa_nil))))))
        pss_nil)
      (pss_cons (ps_if (pt_cmpR op_gt (pe_call G_power hr rfl C_power.mg C_power.kp C_power.b .nil pass0 (pa_cons (pe_ix ix_tup (pv 1) pe_int (fun _ _ => rfl)) (pa_cons (pe_op op_sub (pe_call G_places hr rfl C_places.mg C_places.kp C_places.b .nil pass0 (pa_cons (pv 1) pa_nil)) pe_int) pa_nil))) (pe_glob (v := .int 9) rfl hm ⟨_, rfl⟩) (nomark _))
        (pss_one ps_never)
        pss_nil)
      (pss_one (ps_ret (pv 1)))))), ?_⟩
    have hN := narrowP_pos L s n low
    have hNl := narrowP_len L s n low
    refine ⟨_, rfl, a, s, n, low, L, rfl, rA, hl, hs2, hs9, hn, h256, fun H1 p s1 np rp => ?_⟩
    refine ⟨_, rfl, p, s, (narrowP L s n low).2.1, _, _, rfl, rp, hNl, hs2, hs9, hN.1, rfl, _, rfl, ?_⟩
    -- behind the if
    have fin : ∀ (H2 : Hp) (q : Addr), Same H H2 → H q = none → RuleAt K H2 q s (frameP L s n low).1 (frameP L s n low).2.2 → ∀ D : Ends, D.rt = Q → (tSeq (tIfS (tTest (tOp (rI0 fun i j => V.bl (decide (j < i))) (tCall sp_power [] E0 (tCons (tOp (rIxT K) (tVar 1) (tC (V.int 0))) (tCons (tOp (rI0 fun i j => V.int (i - j)) (tCall (sp_places K) [] E0 (tCons (tVar 1) tNil)) (tC (V.int 1))) tNil))) (tC (V.int 9)))) tNever tNext) (tRet (tVar 1))) D [some (V.ref a), some (V.ref q)] H2 := by
      rintro H2 q s2 nq rq D rfl
      obtain ⟨t, q1, q2⟩ := id rq
      have hF := frameP_len L s n low
      have hF1 : 1 ≤ (frameP L s n low).2.1 := by
        unfold frameP
        show 1 ≤ (if (narrowP L s n low).2.1 = 1 then _ else _ : Int × Nat × List Nat).2.1
        split
        · show 1 ≤ 2; omega
        · exact hN.1
      have hF2 : (frameP L s n low).2.1 ≤ 9 := by
        unfold frameP
        show (if (narrowP L s n low).2.1 = 1 then _ else _ : Int × Nat × List Nat).2.1 ≤ 9
        split
        · show 2 ≤ 9; omega
        · have := hN.2 hn; have := exp_small hs2 h256; omega
      refine ⟨_, rfl, q, _, _, _, rfl, rfl, q1, rfl, _, rfl, q, s, (frameP L s n low).2.1, _, _, rfl, rq, hF, hs2, hs9, hF1, _, _, rfl, rfl, s, (frameP L s n low).2.1 - 1, ?_, hs9, by omega, _, _, rfl, rfl, _, rfl, ?_⟩
      · show [nv s, V.int (((frameP L s n low).2.1 : Int) - 1)] = _
        rw [show (((frameP L s n low).2.1 : Int) - 1) = (((frameP L s n low).2.1 - 1 : Nat) : Int) by omega]
      · refine ifF (by omega) ?_
        exact ⟨_, rfl, kk H2 q s2 nq rq⟩
    by_cases h1 : (narrowP L s n low).2.1 = 1
    · refine ifT (by rw [h1]; rfl) ?_
      obtain ⟨t, q1, q2⟩ := id rp
      refine ⟨_, rfl, _, rfl, p, _, _, _, rfl, rfl, q1, rfl, _, rfl, p, _, _, _, rfl, rfl, q1, rfl, _, _, rfl, rfl, p, s, _, _, rfl, rp, by rw [hNl, h1], hs2, hs9, fun H2 q s2 nq rq => ?_⟩
      refine fin H2 q (s1.trans s2) (s1.free nq) ?_ _ rfl
      have e : frameP L s n low = ((narrowP L s n low).1, 2, bywin (narrowP L s n low).2.2 s 1 0 2) := by
        unfold frameP
        exact if_pos h1
      rw [e]
      exact rq
    · refine ifF (fun e => h1 ((nv_eq (b := 1)).mp e)) ?_
      refine fin H1 p s1 np ?_ _ rfl
      have e : frameP L s n low = narrowP L s n low := by
        unfold frameP
        exact if_neg h1
      rw [e]
      exact rp

abbrev st_nodes_of : Stmt := top 24
theorem sc_nodes_of : FnScope ["found"] ["found"] (defScope st_nodes_of) := ⟨rfl, rfl, rfl, by decide +kernel, rfl, by decide +kernel, by decide +kernel⟩
def sp_nodes_of (K : PySem.W.Frag) : Sp := fun vs H Q _ => ∃ (a : Addr) (s : Nat) (low : Int) (L : List Nat), vs = [.ref a] ∧ RuleAt K H a s low L ∧ 2 ≤ s ∧ s ≤ 9 ∧ Q (nv (L.length / s)) H
theorem has_nodes_of (F : FunC K mg "nodes_of" 24 ["found"]) (T : Bt mg) : Has P w K mg base 1 "nodes_of" ["found"] (sp_nodes_of K) := by
  obtain ⟨f, fd, F, C⟩ := F
  refine ⟨f, fd, F.ok sc_nodes_of (fun vs H Q E h => ?_) (fun cdv A outer s H vs Q E hr h => ?_), C⟩
  · obtain ⟨a, s, low, L, rfl, _⟩ := h
    rfl
  · obtain ⟨a, s, low, L, rfl, ⟨t, r1, r2⟩, hs2, hs9, kk⟩ := h
    refine ⟨_, (pss_one (ps_ret (pe_op op_fdiv (pe_callB call_len_seq (by rfl) T.len PySem.boot_len (pa_cons (pe_ix ix_tup (pv 0) pe_int (fun _ _ => rfl)) pa_nil)) (pe_ix ix_tup (pv 0) pe_int (fun _ _ => rfl))))), ?_⟩
    refine ⟨_, rfl, a, _, _, _, rfl, rfl, r1, rfl, t, _, rfl, .inr r2, _, rfl, a, _, _, _, rfl, rfl, r1, rfl, _, _, rfl, rfl, ⟨by omega, by omega⟩, ?_⟩
    rw [nvs_len]
    exact kk

abbrev st_nodes : Stmt := top 25
theorem sc_nodes : FnScope ["one"] ["one"] (defScope st_nodes) := ⟨rfl, rfl, rfl, by decide +kernel, rfl, by decide +kernel, by decide +kernel⟩
def sp_nodes (K : PySem.W.Frag) : Sp := fun vs H Q _ => ∃ (a : Addr) (s n : Nat) (low : Int) (L : List Nat), vs = [.ref a] ∧ RuleAt K H a s low L ∧ Small L s n low ∧ Pure H (nv ((frameP L s n low).2.2.length / s)) Q
theorem has_nodes (F : FunC K mg "nodes" 25 ["one"]) (h_nodes_of : Has P w K mg base 6 "nodes_of" ["found"] (sp_nodes_of K)) (h_frame : Has P w K mg base 6 "frame" ["one"] (sp_frame K)) : Has P w K mg base 7 "nodes" ["one"] (sp_nodes K) := by
  obtain ⟨_, _, G_nodes_of, C_nodes_of⟩ := h_nodes_of
  obtain ⟨_, _, G_frame, C_frame⟩ := h_frame
  obtain ⟨f, fd, F, C⟩ := F
  refine ⟨f, fd, F.ok sc_nodes (fun vs H Q E h => ?_) (fun cdv A outer s H vs Q E hr h => ?_), C⟩
  · obtain ⟨a, s, n, low, L, rfl, _⟩ := h
    rfl
  · obtain ⟨a, s, n, low, L, rfl, rA, hS, kk⟩ := h
    refine ⟨_, (pss_one (ps_ret (pe_call G_nodes_of hr rfl C_nodes_of.mg C_nodes_of.kp C_nodes_of.b .nil pass0 (pa_cons (pe_call G_frame hr rfl C_frame.mg C_frame.kp C_frame.b .nil pass0 (pa_cons (pv 0) pa_nil)) pa_nil)))), ?_⟩
    exact ⟨_, rfl, a, s, n, low, L, rfl, rA, hS, fun H1 p s1 np rp => ⟨p, s, _, _, rfl, rp, hS.2.1, hS.2.2.1, kk _ s1⟩⟩

abbrev st_pair_number : Stmt := top 27
theorem sc_pair_number : FnScope ["u", "v", "many"] ["u", "v", "many"] (defScope st_pair_number) := ⟨rfl, rfl, rfl, by decide +kernel, rfl, by decide +kernel, by decide +kernel⟩
def sp_pair_number : Sp := fun vs H Q _ => ∃ (u v m : Nat), vs = [nv u, nv v, nv m] ∧ m ≤ 1000 ∧ Q (nv (pn u v m)) H
theorem has_pair_number (F : FunC K mg "pair_number" 27 ["u", "v", "many"]) : Has P w K mg base 1 "pair_number" ["u", "v", "many"] sp_pair_number := by
  obtain ⟨f, fd, F, C⟩ := F
  refine ⟨f, fd, F.ok sc_pair_number (fun vs H Q E h => ?_) (fun cdv A outer s H vs Q E hr h => ?_), C⟩
  · obtain ⟨u, v, m, rfl, _⟩ := h
    rfl
  · obtain ⟨u, v, m, rfl, hm, kk⟩ := h
    refine ⟨_, (pss_cons (ps_if (pt_cmpR op_eq (pv 0) (pv 1) (nomark _))
        (pss_one (ps_ret pe_int))
        pss_nil)
      (pss_one (ps_ret (pe_op op_add (pe_op op_mul (pv 0) (pv 2)) (pv 1))))), ?_⟩
    unfold pn at kk
    refine ⟨_, rfl, _, rfl, rfl, _, rfl, ?_⟩
    refine if2 (fun h => ?_) (fun h => ?_)
    · rw [if_pos (nv_eq.mp h)] at kk
      exact kk
    · rw [if_neg fun e => h (nv_eq.mpr e)] at kk
      exact ⟨_, rfl, _, rfl, _, _, rfl, rfl, .inr ⟨by omega, by omega⟩, _, rfl, _, _, rfl, rfl, kk⟩
end
end K52
set_option Elab.async false
set_option maxRecDepth 100000
namespace K52
open PySem L2
abbrev kn (b : Nat) : Key := Sum.inl (b : Int)
theorem kn_inj {a b : Nat} : kn a = kn b ↔ a = b := ⟨fun h => by have := Sum.inl.inj h; omega, fun h => h ▸ rfl⟩
theorem valV_keys (g : Nat → V) (k : Nat) : ∀ K : List Nat, valV (K.map fun b => (kn b, g b)) (kn k) = if k ∈ K then some (g k) else none
  | [] => rfl
  | b :: K => by
    rw [List.map_cons]
    by_cases h : b = k
    · rw [valV_pos (by rw [h]), if_pos (by rw [h]; exact List.mem_cons_self), h]
    · rw [valV_neg (fun e => h (kn_inj.mp e)), valV_keys g k K]
      by_cases h2 : k ∈ K
      · rw [if_pos h2, if_pos (List.mem_cons_of_mem _ h2)]
      · rw [if_neg h2, if_neg]
        intro h3
        rcases List.mem_cons.mp h3 with e | e
        · exact h e.symm
        · exact h2 e
theorem dget_keys {H : Hp} {d : Addr} {K : List Nat} {g : Nat → V} {k : Nat} (h : Rd H d (.dK (K.map fun b => (kn b, g b)))) : DGet H d (nv k) (if k ∈ K then some (g k) else none) := by
  rw [← valV_keys]
  exact .inl ⟨_, kn k, h, rfl, rfl⟩
/-- what stands but at the places of l -/
def But (l : List Addr) (H H' : Hp) : Prop := ∀ x o, H x = some o → x ∉ l → H' x = some o
theorem But.refl (l : List Addr) (H : Hp) : But l H H := fun _ _ h _ => h
theorem But.same {l : List Addr} {H H1 H2 : Hp} (b : But l H H1) (s : Same H1 H2) : But l H H2 := fun x o h1 h2 => s x o (b x o h1 h2)
theorem But.up {l : List Addr} {H H1 : Hp} {a : Addr} {o : HO} (b : But l H H1) (h : a ∈ l) : But l H (L2.upd H1 a o) := fun x u h1 h2 => by
  rw [upd_ne (fun e => h2 (by rw [e]; exact h))]
  exact b x u h1 h2
section
variable {P : Program} {w : World} {K : PySem.W.Frag} {mg : Str → Option Value} {base : Heap}
abbrev st_words_told : Stmt := top 28
theorem sc_words_told : FnScope ["here", "found", "k"] ["here"] (defScope st_words_told) := ⟨rfl, rfl, rfl, by decide +kernel, rfl, by decide +kernel, by decide +kernel⟩
/-- a list of lists -/
structure LLs (H : Hp) (p : Addr) (ps : List Addr) (W : List (List Nat)) : Prop where
  len : ps.length = W.length
  top : H p = some (.lst (ps.map V.ref))
  each : ∀ (j : Nat) (q : Addr) (l : List Nat), ps[j]? = some q → W[j]? = some l → H q = some (.lst (nvs l))
def sp_words_told (K : PySem.W.Frag) : Sp := fun vs H Q _ => ∃ (a : Addr) (s : Nat) (low : Int) (L : List Nat), vs = [.ref a] ∧ RuleAt K H a s low L ∧ (∀ d ∈ L, d < s) ∧ s ≤ 9 ∧ L.length ≤ 1000 ∧
  ∀ (H' : Hp) (p : Addr) (ps : List Addr), Same H H' → H p = none → LLs H' p ps (wt L s) → Q (.ref p) H'
theorem has_words_told (F : FunC K mg "words_told" 28 ["here"]) (T : Bt mg) : Has P w K mg base 1 "words_told" ["here"] (sp_words_told K) := by
  obtain ⟨f, fd, F, C⟩ := F
  refine ⟨f, fd, F.ok sc_words_told (fun vs H Q E h => ?_) (fun cdv A outer s H vs Q E hr h => ?_), C⟩
  · obtain ⟨a, s, low, L, rfl, _⟩ := h
    rfl
  · obtain ⟨a, s, low, L, rfl, ⟨t, r1, r2⟩, hLs, hs9, hLl, kk⟩ := h
    refine ⟨_, (pss_cons (ps_setLc (i := 1) (own := [("k", 2)]) (g := gName 2) (tt := tYes) (by rfl) sc_words_told.nd rfl rfl (sw_true rfl rfl rfl (by decide +kernel)) (pi_range1 (by rfl) T.range (pa_cons (pe_ix ix_tup (pv 0) pe_int (fun _ _ => rfl)) pa_nil)) (blkOk_by (own := [("k", 2)]) (N := ["here", "found", "k"]) (sc := defScope st_words_told) (by decide +kernel)) (fun _ _ _ _ _ => pg_name (i := 2) sc_words_told.nd rfl (Or.inl rfl)) (fun _ _ _ _ _ => pts_nil) (fun _ _ _ _ _ => (pe_lst pa_nil)))
      (pss_cons (ps_for PassesOwn.never rfl (pi_range1 (by rfl) T.range (pa_cons (pe_callB call_len_seq (by rfl) T.len PySem.boot_len (pa_cons (pe_ix ix_tup (pv 0) pe_int (fun _ _ => rfl)) pa_nil)) pa_nil)) (pg_name (i := 2) sc_words_told.nd rfl (Or.inl rfl))
        (pss_one (ps_expr (pe_bm PySem.F.plainAttrs_list PySem.F.slot_list_append PySem.F.type_list_append mt_append (pe_ix ix_list (pv 1) (pe_ix ix_tup (pe_ix ix_tup (pv 0) pe_int (fun _ _ => rfl)) (pv 2) (fun _ _ => rfl)) (fun _ _ => rfl)) (pa_cons (pv 2) pa_nil)))))
      (pss_one (ps_ret (pv 1))))), ?_⟩
    refine ⟨_, rfl, a, _, _, _, rfl, rfl, r1, rfl, _, rfl, by omega, by omega, fun D hD => ?_⟩
    refine lc_range0 (n := s) (fun i H' => ∃ ps : List Addr, ps.length = i ∧ ps.Nodup ∧ Same H H' ∧ H' D = some (.lst (ps.map V.ref)) ∧ ∀ q ∈ ps, H' q = some (.lst []) ∧ H q = none) ⟨[], rfl, List.nodup_nil, sNew hD, upd_same, fun q hq => by cases hq⟩ ?_ ?_
    · rintro i H' hi ⟨ps, hl, hn, sm, hL, he⟩
      refine ⟨rfl, Nat.zero_le _, fun q hq => ?_⟩
      have nDq : D ≠ q := ne_of_none hL hq
      refine ⟨_, by rw [upd_ne nDq]; exact hL, small_line (by rw [List.length_map]; omega), ps ++ [q], by simp [hl], ?_, sUp (sUp sm (sm.free hq)) hD, by rw [upd_same, List.map_append]; rfl, fun x hx => ?_⟩
      · rw [List.nodup_append]
        refine ⟨hn, by simp, fun x hx y hy e => ?_⟩
        have := (he x hx).1
        rw [e, List.mem_singleton.mp hy, hq] at this
        cases this
      · rcases List.mem_append.mp hx with hx | hx
        · obtain ⟨h1, h2⟩ := he x hx
          have nxD : x ≠ D := fun e => by
            rw [e, hL] at h1
            have := congrArg (fun o => match o with | some (HO.lst l) => l.length | _ => 0) h1
            simp at this
            rw [this] at hx
            cases hx
          exact ⟨by rw [upd_ne nxD, upd_ne (ne_of_none h1 hq)]; exact h1, h2⟩
        · rw [List.mem_singleton.mp hx]
          exact ⟨by rw [upd_ne (Ne.symm nDq), upd_same], sm.free hq⟩
    · rintro H1 ⟨ps, hl, hn, sm1, hL1, he⟩
      refine ⟨_, rfl, a, _, _, _, rfl, rfl, sT sm1 r1, rfl, t, _, rfl, .inr (sT sm1 r2), _, rfl, by rw [nvs_len]; omega, by rw [nvs_len]; omega, ?_⟩
      rw [nvs_len]
      have nDp : ∀ q ∈ ps, H1 q = some (.lst []) → q ≠ D := fun q hq h1 e => by
        rw [e, hL1] at h1
        have := congrArg (fun o => match o with | some (HO.lst l) => l.length | _ => 0) h1
        simp at this
        rw [this] at hq
        cases hq
      refine for_range0 (n := L.length) (fun i σ H' => ∃ u, σ = [some (.ref a), some (.ref D), u] ∧ Same H H' ∧ H' D = some (.lst (ps.map V.ref)) ∧ ∀ j q, ps[j]? = some q → H' q = some (.lst (nvs (wtA L i j)))) ⟨_, rfl, sm1, hL1, fun j q hj => (he q (List.mem_of_getElem? hj)).1⟩ ?_ ?_
      · rintro i σ H' hi ⟨u, rfl, sm, hL, hps⟩
        have hti : tb L i < s := tb_lt (Nat.lt_of_le_of_lt (Nat.zero_le _) (hLs _ (List.getElem_mem hi))) hLs i
        have hq : ps[tb L i]? = some ps[tb L i] := List.getElem?_eq_getElem (by omega)
        have hq2 := hps _ _ hq
        have hqm : ps[tb L i] ∈ ps := List.getElem_mem _
        refine ⟨_, rfl, _, rfl, a, _, _, _, rfl, rfl, sT sm r1, rfl, _, rfl, t, _, _, _, rfl, rfl, sT sm r2, atI_nat (tb_get hi), D, _, _, V.ref ps[tb L i], rfl, rfl, SqL.of hL, atI_nat (by rw [List.getElem?_map, hq]; rfl), .inl ⟨rfl, _, SqL.of hq2⟩, _, rfl, ps[tb L i], _, _, rfl, rfl, hq2, small_line ?_, ?_⟩
        · have := List.length_filter_le (fun k => tb L k == tb L i) (List.range i)
          rw [List.length_range] at this
          rw [nvs_len]
          unfold wtA
          omega
        · refine ⟨_, rfl, sUp sm (he _ hqm).2, ?_, fun j q hj => ?_⟩
          · rw [upd_ne (Ne.symm (nDp _ hqm (he _ hqm).1))]
            exact hL
          · by_cases e : j = tb L i
            · rw [e] at hj ⊢
              rw [hq] at hj
              cases hj
              rw [upd_same]
              unfold wtA
              rw [filt_pos (p := fun k => tb L k == tb L i) (by simp)]
              show _ = some (HO.lst (List.map nv (_ ++ [i])))
              rw [List.map_append]
              rfl
            · have hne : q ≠ ps[tb L i] := fun e2 => e (nd_ix hn hj (e2 ▸ hq))
              rw [upd_ne hne, hps j q hj]
              unfold wtA
              rw [filt_neg (p := fun k => tb L k == j) (by simpa using fun z => e z.symm)]
      · rintro σ H' ⟨u, rfl, sm, hL, hps⟩
        refine ⟨_, rfl, kk H' D ps sm hD ⟨?_, hL, fun j q l h1 h2 => ?_⟩⟩
        · unfold wt
          rw [List.length_map, List.length_range]
          exact hl
        · unfold wt at h2
          rw [List.getElem?_map] at h2
          have hj : j < s := by
            have := (List.getElem?_eq_some_iff.mp h1).1
            omega
          rw [List.getElem?_range hj] at h2
          cases h2
          exact hps j q h1
end
end K52
set_option Elab.async false
set_option maxRecDepth 100000
namespace K52
open PySem L2
/-- the dict of dicts of steps -/
structure StepsAt (H : Hp) (d : Addr) (K : List Nat) (f : SF) (ad : Nat → Addr) (tp : Nat → Nat → Addr) : Prop where
  top : H d = some (.dK (K.map fun b => (kn b, V.ref (ad b))))
  inn : ∀ b ∈ K, H (ad b) = some (.dK ((f b).map fun e => (kn e.1, V.ref (tp b e.1))))
  tup : ∀ b ∈ K, ∀ e ∈ f b, H (tp b e.1) = some (.tup [nv e.2.1, nv e.2.2])
  sep : ∀ b ∈ K, ad b ≠ d
theorem StepsAt.same {H H' : Hp} {d : Addr} {K : List Nat} {f : SF} {ad : Nat → Addr} {tp : Nat → Nat → Addr} (S : StepsAt H d K f ad tp) (e : Same H H') : StepsAt H' d K f ad tp :=
  ⟨e _ _ S.top, fun b hb => e _ _ (S.inn b hb), fun b hb x hx => e _ _ (S.tup b hb x hx), S.sep⟩
theorem bywin_lt {L : List Nat} {s n q : Nat} {d : Int} (hs : 0 < s) (h : ∀ x ∈ L, x < s) : ∀ x ∈ bywin L s n d q, x < s := by
  intro x hx
  unfold bywin at hx
  obtain ⟨k, _, e⟩ := List.mem_map.mp hx
  rw [← e]
  exact tb_lt hs h _
theorem frameP_lt {L : List Nat} {s n : Nat} {low : Int} (hs : 0 < s) (h : ∀ x ∈ L, x < s) : ∀ x ∈ (frameP L s n low).2.2, x < s := by
  have h1 : ∀ x ∈ (narrowP L s n low).2.2, x < s := by
    unfold narrowP
    split <;> exact bywin_lt hs h
  unfold frameP
  show ∀ x ∈ (if (narrowP L s n low).2.1 = 1 then _ else _ : Int × Nat × List Nat).2.2, x < s
  split
  · exact bywin_lt hs h1
  · exact h1
theorem frameP_ge {L : List Nat} {s n : Nat} {low : Int} : 2 ≤ (frameP L s n low).2.1 := by
  have hN := narrowP_pos L s n low
  unfold frameP
  show 2 ≤ (if (narrowP L s n low).2.1 = 1 then _ else _ : Int × Nat × List Nat).2.1
  split
  · exact Nat.le_refl _
  · have := hN.1; omega
theorem small_frame {L : List Nat} {s n : Nat} {low : Int} (h : Small L s n low) : (frameP L s n low).2.2.length / s = s ^ ((frameP L s n low).2.1 - 1) ∧ (frameP L s n low).2.2.length = (frameP L s n low).2.2.length / s * s ∧ (frameP L s n low).2.2.length / s ≤ 9 ∧ 0 < (frameP L s n low).2.2.length / s := by
  obtain ⟨_, hs2, _, _, _, h9⟩ := h
  have hg := frameP_ge (L := L) (s := s) (n := n) (low := low)
  have hl := frameP_len L s n low
  have e : (frameP L s n low).2.1 = ((frameP L s n low).2.1 - 1) + 1 := by omega
  have h1 : (frameP L s n low).2.2.length = s ^ ((frameP L s n low).2.1 - 1) * s := by rw [hl, e, Nat.pow_succ]; simp
  have h2 : (frameP L s n low).2.2.length / s = s ^ ((frameP L s n low).2.1 - 1) := by rw [h1]; exact Nat.mul_div_cancel _ (by omega)
  rw [h2]
  exact ⟨rfl, h1, h9, Nat.pow_pos (by omega)⟩
section
variable {P : Program} {w : World} {K : PySem.W.Frag} {mg : Str → Option Value} {base : Heap}
abbrev st_pair_steps : Stmt := top 29
theorem sc_pair_steps : FnScope ["one", "here", "signs", "many", "found", "u", "v", "some", "left", "right", "begin", "end"] ["one"] (defScope st_pair_steps) := ⟨rfl, rfl, rfl, by decide +kernel, rfl, by decide +kernel, by decide +kernel⟩
abbrev FF (L : List Nat) (s n : Nat) (low : Int) : List Nat := (frameP L s n low).2.2
abbrev NN (L : List Nat) (s n : Nat) (low : Int) : Nat := (frameP L s n low).2.2.length / s
def sp_pair_steps (K : PySem.W.Frag) : Sp := fun vs H Q _ => ∃ (a : Addr) (s n : Nat) (low : Int) (L : List Nat), vs = [.ref a] ∧ RuleAt K H a s low L ∧ Small L s n low ∧ (∀ x ∈ L, x < s) ∧
  ∀ (H' : Hp) (d : Addr) (ad : Nat → Addr) (tp : Nat → Nat → Addr), Same H H' → H d = none → StepsAt H' d (keysL (NN L s n low)) (stepsF (FF L s n low) s (NN L s n low)) ad tp → Q (.ref d) H'
/-- while keys are laid -/
structure St1 (H0 H : Hp) (d : Addr) (K : List Nat) (ad : Nat → Addr) : Prop where
  sm : Same H0 H
  top : H d = some (.dK (K.map fun b => (kn b, V.ref (ad b))))
  inn : ∀ b ∈ K, H (ad b) = some (.dK [])
  fr : ∀ b ∈ K, H0 (ad b) = none ∧ ad b ≠ d
  inj : ∀ b ∈ K, ∀ c ∈ K, ad b = ad c → b = c
theorem St1.key {H0 H : Hp} {d q : Addr} {K : List Nat} {ad : Nat → Addr} {k : Nat} (S : St1 H0 H d K ad) (hd : H0 d = none) (hq : H q = none) (hk : k ∉ K) :
    St1 H0 (L2.upd (L2.upd H q (.dK [])) d (.dK (K.map (fun b => (kn b, V.ref (ad b))) ++ [(kn k, V.ref q)]))) d (K ++ [k]) (upf ad k q) := by
  have ndq : d ≠ q := ne_of_none S.top hq
  have old : ∀ b ∈ K, upf ad k q b = ad b := fun b hb => upf_ne _ _ (fun e => hk (e ▸ hb))
  have nq : ∀ b ∈ K, ad b ≠ q := fun b hb => ne_of_none (S.inn b hb) hq
  refine ⟨sUp (sUp S.sm (S.sm.free hq)) hd, ?_, fun b hb => ?_, fun b hb => ?_, fun b hb c hc e => ?_⟩
  · rw [upd_same, List.map_append, List.map_singleton, upf_same]
    congr 3
    exact List.map_congr_left fun b hb => by rw [old b hb]
  · rcases List.mem_append.mp hb with h | h
    · rw [old b h, upd_ne (S.fr b h).2, upd_ne (nq b h)]
      exact S.inn b h
    · rw [List.mem_singleton.mp h, upf_same, upd_ne (Ne.symm ndq), upd_same]
  · rcases List.mem_append.mp hb with h | h
    · rw [old b h]
      exact S.fr b h
    · rw [List.mem_singleton.mp h, upf_same]
      exact ⟨S.sm.free hq, Ne.symm ndq⟩
  · rcases List.mem_append.mp hb with h | h <;> rcases List.mem_append.mp hc with h' | h'
    · rw [old b h, old c h'] at e
      exact S.inj b h c h' e
    · rw [old b h, List.mem_singleton.mp h', upf_same] at e
      exact absurd e (nq b h)
    · rw [old c h', List.mem_singleton.mp h, upf_same] at e
      exact absurd e.symm (nq c h')
    · rw [List.mem_singleton.mp h, List.mem_singleton.mp h']
theorem St1.new {H0 H : Hp} {d q : Addr} {K : List Nat} {ad : Nat → Addr} (S : St1 H0 H d K ad) (hq : H q = none) : St1 H0 (L2.upd H q (.dK [])) d K ad :=
  ⟨sUp S.sm (S.sm.free hq), by rw [upd_ne (ne_of_none S.top hq)]; exact S.top, fun b hb => by rw [upd_ne (ne_of_none (S.inn b hb) hq)]; exact S.inn b hb, S.fr, S.inj⟩
/-- while steps are laid -/
structure St2 (H2 H : Hp) (d : Addr) (K : List Nat) (ad : Nat → Addr) (f : SF) : Prop where
  but : But (K.map ad) H2 H
  st : ∃ tp, StepsAt H d K f ad tp
  ok : ∀ b, ((f b).map (·.1)).Nodup ∧ ∀ x ∈ f b, x.1 ∈ K
theorem inner_eq (g : Nat → V) (l : List (Nat × (Nat × Nat))) : l.map (fun e => (kn e.1, g e.1)) = (l.map (·.1)).map fun b => (kn b, g b) := by
  rw [List.map_map]
  rfl
theorem any_fst (l : List (Nat × (Nat × Nat))) (k : Nat) : l.any (fun x => x.1 == k) = true ↔ k ∈ l.map (·.1) := by
  rw [List.any_eq_true, List.mem_map]
  constructor
  · rintro ⟨x, h1, h2⟩
    exact ⟨x, h1, by simpa using h2⟩
  · rintro ⟨x, h1, h2⟩
    exact ⟨x, h1, by simpa using h2⟩
theorem St2.put {H2 H : Hp} {d t : Addr} {K : List Nat} {ad : Nat → Addr} {tp : Nat → Nat → Addr} {f : SF} {b e l r : Nat} (Z : St2 H2 H d K ad f) (S : StepsAt H d K f ad tp) (hd : ∀ b ∈ K, ad b ≠ d) (inj : ∀ b ∈ K, ∀ c ∈ K, ad b = ad c → b = c)
    (hb : b ∈ K) (he : e ∈ K) (ht : H t = none) (hn : e ∉ (f b).map (·.1)) :
    St2 H2 (L2.upd (L2.upd H t (.tup [nv l, nv r])) (ad b) (.dK ((f b).map (fun x => (kn x.1, V.ref (tp b x.1))) ++ [(kn e, V.ref t)]))) d K ad (upf f b (f b ++ [(e, (l, r))])) := by
  have nat : ∀ c ∈ K, ad c ≠ t := fun c hc => ne_of_none (S.inn c hc) ht
  refine ⟨(Z.but.same (sNew ht)).up (List.mem_map.mpr ⟨b, hb, rfl⟩), ⟨fun x y => if x = b ∧ y = e then t else tp x y, ⟨?_, fun c hc => ?_, fun c hc x hx => ?_, hd⟩⟩, fun c => ?_⟩
  · rw [upd_ne (Ne.symm (hd b hb)), upd_ne (ne_of_none S.top ht)]
    exact S.top
  · by_cases hcb : c = b
    · subst hcb
      rw [upd_same, upf_same, List.map_append]
      congr 3
      · refine List.map_congr_left fun x hx => ?_
        rw [if_neg fun q => hn (List.mem_map.mpr ⟨x, hx, q.2⟩)]
      · show [(kn e, V.ref t)] = [(kn e, V.ref (if c = c ∧ e = e then t else tp c e))]
        rw [if_pos ⟨rfl, rfl⟩]
    · rw [upd_ne (fun q => hcb (inj c hc b hb q)), upd_ne (nat c hc), upf_ne _ _ hcb, S.inn c hc]
      congr 2
      refine List.map_congr_left fun x _ => ?_
      rw [if_neg fun q => hcb q.1]
  · have old : ∀ x ∈ f c, (L2.upd (L2.upd H t (.tup [nv l, nv r])) (ad b) (.dK ((f b).map (fun x => (kn x.1, V.ref (tp b x.1))) ++ [(kn e, V.ref t)]))) (tp c x.1) = some (.tup [nv x.2.1, nv x.2.2]) := fun x hx => by
      have q := S.tup c hc x hx
      rw [upd_ne (ne_of q (S.inn b hb) (by intro z; cases z)), upd_ne (ne_of_none q ht)]
      exact q
    by_cases hcb : c = b
    · subst hcb
      rw [upf_same] at hx
      rcases List.mem_append.mp hx with hx | hx
      · show (L2.upd (L2.upd H t _) (ad c) _) (if c = c ∧ x.1 = e then t else tp c x.1) = _
        rw [if_neg fun q => hn (List.mem_map.mpr ⟨x, hx, q.2⟩)]
        exact old x hx
      · rw [List.mem_singleton.mp hx]
        show (L2.upd (L2.upd H t _) (ad c) _) (if c = c ∧ e = e then t else tp c e) = _
        rw [if_pos ⟨rfl, rfl⟩, upd_ne (Ne.symm (nat c hc)), upd_same]
    · rw [upf_ne _ _ hcb] at hx
      show (L2.upd (L2.upd H t _) (ad b) _) (if c = b ∧ x.1 = e then t else tp c x.1) = _
      rw [if_neg fun q => hcb q.1]
      exact old x hx
  · obtain ⟨h1, h2⟩ := Z.ok c
    by_cases hcb : c = b
    · subst hcb
      rw [upf_same, List.map_append, List.nodup_append]
      refine ⟨⟨h1, by simp, fun x hx y hy q => hn ?_⟩, fun x hx => ?_⟩
      · have : y = e := by simpa using hy
        rw [← this, ← q]
        exact hx
      · rcases List.mem_append.mp hx with hx | hx
        · exact h2 x hx
        · rw [List.mem_singleton.mp hx]
          exact he
    · rw [upf_ne _ _ hcb]
      exact ⟨h1, h2⟩
theorem St2.same {H2 H H' : Hp} {d : Addr} {K : List Nat} {ad : Nat → Addr} {f : SF} (Z : St2 H2 H d K ad f) (e : Same H H') : St2 H2 H' d K ad f :=
  ⟨Z.but.same e, let ⟨tp, S⟩ := Z.st; ⟨tp, S.same e⟩, Z.ok⟩
theorem has_pair_steps (F : FunC K mg "pair_steps" 29 ["one"]) (T : Bt mg) (h_frame : Has P w K mg base 7 "frame" ["one"] (sp_frame K)) (h_nodes : Has P w K mg base 7 "nodes" ["one"] (sp_nodes K)) (h_pair_number : Has P w K mg base 7 "pair_number" ["u", "v", "many"] sp_pair_number) (h_words_told : Has P w K mg base 7 "words_told" ["here"] (sp_words_told K)) : Has P w K mg base 8 "pair_steps" ["one"] (sp_pair_steps K) := by
  obtain ⟨_, _, G_frame, C_frame⟩ := h_frame
  obtain ⟨_, _, G_nodes, C_nodes⟩ := h_nodes
  obtain ⟨_, _, G_pair_number, C_pair_number⟩ := h_pair_number
  obtain ⟨_, _, G_words_told, C_words_told⟩ := h_words_told
  obtain ⟨f, fd, F, C⟩ := F
  refine ⟨f, fd, F.ok sc_pair_steps (fun vs H Q E h => ?_) (fun cdv A outer s H vs Q E hr h => ?_), C⟩
  · obtain ⟨a, s, n, low, L, rfl, _⟩ := h
    rfl
  · obtain ⟨a, s, n, low, L, rfl, rA, hS, hLs, kk⟩ := h
    have hu := hu_of hr
    refine ⟨_, (pss_cons (ps_set (i := 1) sc_pair_steps.nd rfl (Or.inl rfl) (pe_call G_frame hr rfl C_frame.mg C_frame.kp C_frame.b .nil pass0 (pa_cons (pv 0) pa_nil)))
      (pss_cons (ps_set (i := 2) sc_pair_steps.nd rfl (Or.inl rfl) (pe_ix ix_tup (pv 1) pe_int (fun _ _ => rfl)))
      (pss_cons (ps_set (i := 3) sc_pair_steps.nd rfl (Or.inl rfl) (pe_call G_nodes hr rfl C_nodes.mg C_nodes.kp C_nodes.b .nil pass0 (pa_cons (pv 0) pa_nil)))
      (pss_cons (ps_set (i := 4) sc_pair_steps.nd rfl (Or.inl rfl) (pe_disp (pps_cons pe_int pe_dnewK pps_nil) (by rfl) (by rfl) (fun z => by cases z) (by decide)))
      (pss_cons (ps_for PassesOwn.never rfl (pi_range1 (by rfl) T.range (pa_cons (pv 3) pa_nil)) (pg_name (i := 5) sc_pair_steps.nd rfl (Or.inl rfl))
        (pss_one (ps_for PassesOwn.never rfl (pi_range1 (by rfl) T.range (pa_cons (pv 3) pa_nil)) (pg_name (i := 6) sc_pair_steps.nd rfl (Or.inl rfl))
          (pss_one (ps_expr (pe_dsetd (pv 4) (pe_call G_pair_number hr rfl C_pair_number.mg C_pair_number.kp C_pair_number.b .nil pass0 (pa_cons (pv 5) (pa_cons (pv 6) (pa_cons (pv 3) pa_nil)))) pe_dnewK ⟨rfl, rfl, rfl, rfl⟩))))))
      (pss_cons (ps_for PassesOwn.never rfl (pi_list (pe_call G_words_told hr rfl C_words_told.mg C_words_told.kp C_words_told.b .nil pass0 (pa_cons (pv 1) pa_nil))) (pg_name (i := 7) sc_pair_steps.nd rfl (Or.inl rfl))
        (pss_one (ps_for PassesOwn.never rfl (pi_list (pv 7)) (pg_name (i := 8) sc_pair_steps.nd rfl (Or.inl rfl))
          (pss_one (ps_for PassesOwn.never rfl (pi_list (pv 7)) (pg_name (i := 9) sc_pair_steps.nd rfl (Or.inl rfl))
            (pss_cons (ps_set (i := 10) sc_pair_steps.nd rfl (Or.inl rfl) (pe_call G_pair_number hr rfl C_pair_number.mg C_pair_number.kp C_pair_number.b .nil pass0 (pa_cons (pe_op op_fdiv (pv 8) (pv 2)) (pa_cons (pe_op op_fdiv (pv 9) (pv 2)) (pa_cons (pv 3) pa_nil)))))
            (pss_cons (ps_set (i := 11) sc_pair_steps.nd rfl (Or.inl rfl) (pe_call G_pair_number hr rfl C_pair_number.mg C_pair_number.kp C_pair_number.b .nil pass0 (pa_cons (pe_op op_mod (pv 8) (pv 3)) (pa_cons (pe_op op_mod (pv 9) (pv 3)) (pa_cons (pv 3) pa_nil)))))
            (pss_one (ps_if (PW.pt (pw_or (pt_cmpR op_ne (pv 10) pe_int (nomark _)) (pw_or1 (pt_cmpR op_ne (pv 11) pe_int (nomark _)))))
              (pss_one (ps_expr (pe_dsetd (pe_dget hu (pv 4) (pv 10) (fun _ _ => rfl)) (pv 11) (pe_tup (pa_cons (pv 8) (pa_cons (pv 9) pa_nil))) ⟨rfl, rfl, rfl, rfl⟩)))
              pss_nil)))))))))
      (pss_one (ps_ret (pv 4))))))))), ?_⟩
    obtain ⟨e1, e2, hN9, hN0⟩ := small_frame hS
    have hs2 := hS.2.1
    have hs9 := hS.2.2.1
    generalize hF : (frameP L s n low).2.2 = FL at e1 e2 hN9 hN0
    have hFlt : ∀ x ∈ FL, x < s := hF ▸ frameP_lt (by omega) hLs
    generalize hN : FL.length / s = N at e1 e2 hN9 hN0
    have kk : ∀ (H' : Hp) (d : Addr) (ad : Nat → Addr) (tp : Nat → Nat → Addr), Same H H' → H d = none → StepsAt H' d (keysL N) (stepsF FL s N) ad tp → Q (.ref d) H' := by
      have := kk
      rw [← hN, ← hF]
      exact this
    -- here, signs, many, found
    refine ⟨_, rfl, a, s, n, low, L, rfl, rA, hS, fun H1 p s1 np rp => ?_⟩
    rw [hF] at rp
    obtain ⟨tq, q1, q2⟩ := id rp
    refine ⟨_, rfl, p, _, _, _, rfl, rfl, q1, rfl, _, rfl, a, s, n, low, L, rfl, rA.same s1, hS, fun H2 s2 => ?_⟩
    rw [hF, hN]
    intro d hd q hq
    have ndq : d ≠ q := fun e => by rw [← e, upd_same] at hq; cases hq
    have hq2 : H2 q = none := by rw [upd_ne (Ne.symm ndq)] at hq; exact hq
    refine ⟨by rw [upd_ne ndq, upd_same], [(kn 0, V.ref q)], rfl, (by show 1 ≤ 15; decide), ?_⟩
    have hd0 : H d = none := s1.free (s2.free hd)
    have hH2d : H2 d = none := hd
    have S0 : St1 H2 (L2.upd (L2.upd (L2.upd H2 d (.dK [])) q (.dK [])) d (.dK (mergeK [] [(kn 0, V.ref q)]))) d (keysN N 0) (fun _ => q) := by
      refine ⟨sUp (sUp (sNew hd) hq2) hd, ?_, fun b hb => ?_, fun b hb => ⟨hq2, Ne.symm ndq⟩, fun b hb c hc _ => ?_⟩
      · rw [upd_same]
        rfl
      · rw [upd_ne (Ne.symm ndq), upd_same]
      · have h1 : b = 0 := by simpa [keysN] using hb
        have h2 : c = 0 := by simpa [keysN] using hc
        rw [h1, h2]
    -- the keys
    refine ⟨_, rfl, _, rfl, by omega, by omega, ?_⟩
    refine for_range0 (n := N) (fun i σ H' => ∃ u5 u6 ad, σ = [some (.ref a), some (.ref p), some (nv s), some (nv N), some (.ref d), u5, u6, none, none, none, none, none] ∧ St1 H2 H' d (keysN N i) ad) ⟨none, none, _, rfl, S0⟩ ?_ ?_
    · rintro u σ H' hu' ⟨u5, u6, ad, rfl, S⟩
      refine ⟨_, rfl, _, rfl, by omega, by omega, ?_⟩
      refine for_range0 (n := N) (fun i σ H' => ∃ u6 ad, σ = [some (.ref a), some (.ref p), some (nv s), some (nv N), some (.ref d), some (nv u), u6, none, none, none, none, none] ∧ St1 H2 H' d (keysU N u (keysN N u) i) ad) ⟨_, _, rfl, S⟩ ?_ ?_
      · rintro v σ H' hv ⟨u6, ad, rfl, S⟩
        refine ⟨_, rfl, d, rfl, .inl ⟨_, .inl S.top⟩, _, rfl, _, rfl, _, rfl, u, v, N, rfl, by omega, fun q hq => ?_⟩
        have nd := ne_of_none S.top hq
        refine ⟨_, kn (pn u v N), by rw [upd_ne nd]; exact S.top, rfl, small_line ?_, fun x hx => ?_, fun hx => ?_⟩
        · rw [List.length_map]
          have h1 : (keysU N u (keysN N u) v).length ≤ N * N := nodup_lt (keysU_ok N u _ (keysN_ok N u).1 v).1 fun x hx => by
            rcases ((keysU_ok N u _ (keysN_ok N u).1 v).2 x).mp hx with h | ⟨v', h2, h3⟩
            · rcases ((keysN_ok N u).2 x).mp h with h | ⟨u', v', h2, h3, h4⟩
              · rw [h]; exact Nat.mul_pos hN0 hN0
              · rw [h4]; exact pn_lt (by omega) h3
            · rw [h3]; exact pn_lt hu' (by omega)
          have h2 : N * N ≤ 9 * 9 := Nat.mul_le_mul hN9 hN9
          omega
        · rw [valV_keys] at hx
          have hm : pn u v N ∈ keysU N u (keysN N u) v := by
            apply Classical.byContradiction
            intro h
            rw [if_neg h] at hx
            cases hx
          refine ⟨_, ad, rfl, ?_⟩
          rw [keysU_succ]
          unfold addKey
          rw [if_pos hm]
          exact S.new hq
        · rw [valV_keys] at hx
          have hm : pn u v N ∉ keysU N u (keysN N u) v := fun h => by
            rw [if_pos h] at hx
            cases hx
          refine ⟨_, upf ad (pn u v N) q, rfl, ?_⟩
          rw [keysU_succ, putK_new _ (by rw [valV_keys, if_neg hm])]
          unfold addKey
          rw [if_neg hm]
          exact S.key hH2d hq hm
      · rintro σ H' ⟨u6, ad, rfl, S⟩
        refine ⟨_, _, ad, rfl, ?_⟩
        rw [keysN_succ]
        exact S
    · rintro σ H3 ⟨u5, u6, ad, rfl, S⟩
      -- the words
      refine ⟨_, rfl, p, s, _, FL, rfl, (rp.same s2).same S.sm, hFlt, hs9, ?_, fun H4 x ps s4 nx LL => ?_⟩
      · have : N * s ≤ 9 * 9 := Nat.mul_le_mul hN9 hs9
        omega
      have top4 := s4 _ _ S.top
      have start : St2 H4 H4 d (keysL N) ad (stepsW s N ((wt FL s).take 0)) := ⟨But.refl _ _, ⟨fun _ _ => d, ⟨top4, fun b hb => s4 _ _ (S.inn b hb), fun b hb e he => by simp [stepsW] at he, fun b hb => (S.fr b hb).2⟩⟩, fun b => ⟨by simp [stepsW], fun x hx => by simp [stepsW] at hx⟩⟩
      -- what the loops read
      have rdx : ∀ {H' f}, St2 H4 H' d (keysL N) ad f → ∀ {y : Addr} {l : List V}, H4 y = some (.lst l) → H' y = some (.lst l) := fun {H' f} Z {y l} hy => Z.but _ _ hy (fun hm => by
        obtain ⟨b, hb, e⟩ := List.mem_map.mp hm
        have := s4 _ _ (S.inn b hb)
        rw [e, hy] at this
        cases this)
      refine ⟨x, rfl, ⟨_, SqL.of LL.top⟩, ?_⟩
      refine for_list (K := K) (a := x) (xs := ps.map V.ref) (fun i σ H' => ∃ u5 u6 u7 u8 u9 u10 u11, σ = [some (.ref a), some (.ref p), some (nv s), some (nv N), some (.ref d), u5, u6, u7, u8, u9, u10, u11] ∧ St2 H4 H' d (keysL N) ad (stepsW s N ((wt FL s).take i))) ⟨_, _, _, _, _, _, _, rfl, start⟩ (fun i σ H' _ ⟨_, _, _, _, _, _, _, _, Z⟩ => SqL.of (rdx Z LL.top)) ?_ ?_
      · rintro i y σ H' hi ⟨u5, u6, u7, u8, u9, u10, u11, rfl, Z⟩
        rw [List.getElem?_map] at hi
        cases ei : ps[i]? with
        | none => rw [ei] at hi; cases hi
        | some qi =>
          rw [ei] at hi
          cases hi
          have hiW : i < (wt FL s).length := by
            have := (List.getElem?_eq_some_iff.mp ei).1
            rw [LL.len] at this
            exact this
          have eW : (wt FL s)[i]? = some (wt FL s)[i] := List.getElem?_eq_getElem hiW
          generalize (wt FL s)[i] = ws at eW
          have hws : ∀ l ∈ ws, l < FL.length := fun l hl => by
            obtain ⟨_, _, e⟩ := List.mem_map.mp (List.mem_of_getElem? eW)
            rw [← e] at hl
            exact List.mem_range.mp (List.mem_filter.mp hl).1
          have qL := LL.each i qi ws ei eW
          have eS : stepsW s N ((wt FL s).take (i + 1)) = addL s N ws ws (stepsW s N ((wt FL s).take i)) := by
            unfold stepsW
            rw [List.take_add_one, eW, List.foldl_append]
            rfl
          generalize stepsW s N ((wt FL s).take i) = f0 at Z eS
          refine ⟨_, rfl, qi, rfl, ⟨_, SqL.of (rdx Z qL)⟩, ?_⟩
          refine for_list (K := K) (a := qi) (xs := nvs ws) (fun j σ H' => ∃ u5 u6 u8 u9 u10 u11, σ = [some (.ref a), some (.ref p), some (nv s), some (nv N), some (.ref d), u5, u6, some (.ref qi), u8, u9, u10, u11] ∧ St2 H4 H' d (keysL N) ad (addL s N ws (ws.take j) f0)) ⟨_, _, _, _, _, _, rfl, Z⟩ (fun i σ H' _ ⟨_, _, _, _, _, _, _, Z⟩ => SqL.of (rdx Z qL)) ?_ ?_
          · rintro j y σ H' hj ⟨u5, u6, u8, u9, u10, u11, rfl, Z⟩
            obtain ⟨l, hl, rfl⟩ := nvs_get hj
            have hlF := hws l (List.mem_of_getElem? hl)
            have eS : addL s N ws (ws.take (j + 1)) f0 = addR s N l ws (addL s N ws (ws.take j) f0) := by
              unfold addL
              rw [List.take_add_one, hl, List.foldl_append]
              rfl
            generalize addL s N ws (ws.take j) f0 = f1 at Z eS
            refine ⟨_, rfl, qi, rfl, ⟨_, SqL.of (rdx Z qL)⟩, ?_⟩
            refine for_list (K := K) (a := qi) (xs := nvs ws) (fun k σ H' => ∃ u5 u6 u9 u10 u11, σ = [some (.ref a), some (.ref p), some (nv s), some (nv N), some (.ref d), u5, u6, some (.ref qi), some (nv l), u9, u10, u11] ∧ St2 H4 H' d (keysL N) ad (addR s N l (ws.take k) f1)) ⟨_, _, _, _, _, rfl, Z⟩ (fun i σ H' _ ⟨_, _, _, _, _, _, Z⟩ => SqL.of (rdx Z qL)) ?_ ?_
            · rintro k y σ H' hk ⟨u5, u6, u9, u10, u11, rfl, Z⟩
              obtain ⟨r, hrr, rfl⟩ := nvs_get hk
              have hrF := hws r (List.mem_of_getElem? hrr)
              have eS : addR s N l (ws.take (k + 1)) f1 = addStep s N (addR s N l (ws.take k) f1) l r := by
                unfold addR
                rw [List.take_add_one, hrr, List.foldl_append]
                rfl
              generalize addR s N l (ws.take k) f1 = f2 at Z eS
              have hls : l / s < N := (Nat.div_lt_iff_lt_mul (by omega)).mpr (by rw [← e2]; exact hlF)
              have hrs : r / s < N := (Nat.div_lt_iff_lt_mul (by omega)).mpr (by rw [← e2]; exact hrF)
              have hlN : l % N < N := Nat.mod_lt _ hN0
              have hrN : r % N < N := Nat.mod_lt _ hN0
              refine ⟨_, rfl, _, rfl, _, _, rfl, rfl, ⟨by omega, by omega⟩, _, rfl, _, rfl, _, _, rfl, rfl, ⟨by omega, by omega⟩, _, rfl, l / s, r / s, N, rfl, by omega, ?_⟩
              refine ⟨_, rfl, _, rfl, _, _, rfl, rfl, (by show (0 : Int) < N; omega), _, rfl, _, rfl, _, _, rfl, rfl, (by show (0 : Int) < N; omega), _, rfl, l % N, r % N, N, rfl, by omega, ?_⟩
              unfold addStep at eS
              have hbK : pn (l / s) (r / s) N ∈ keysL N := pn_mem_keysL hls hrs
              have heK : pn (l % N) (r % N) N ∈ keysL N := pn_mem_keysL hlN hrN
              generalize pn (l / s) (r / s) N = b at eS hbK
              generalize pn (l % N) (r % N) N = e at eS heK
              have skip : b = 0 ∧ e = 0 → ∃ u5' u6' u9' u10' u11', ([some (V.ref a), some (.ref p), some (nv s), some (nv N), some (.ref d), u5, u6, some (.ref qi), some (nv l), some (nv r), some (nv b), some (nv e)] : L2.St) = [some (.ref a), some (.ref p), some (nv s), some (nv N), some (.ref d), u5', u6', some (.ref qi), some (nv l), u9', u10', u11'] ∧ St2 H4 H' d (keysL N) ad (addR s N l (ws.take (k + 1)) f1) := fun h0 => ⟨_, _, _, _, _, rfl, by rw [eS, if_pos h0]; exact Z⟩
              have go : ¬ (b = 0 ∧ e = 0) → tDrop (tDSetd (tDGet (tVar 4) (tVar 10)) (tVar 11) (tTup (tCons (tVar 8) (tCons (tVar 9) tNil)))) { nx := fun σ H' => ∃ u5 u6 u9 u10 u11, σ = [some (.ref a), some (.ref p), some (nv s), some (nv N), some (.ref d), u5, u6, some (.ref qi), some (nv l), u9, u10, u11] ∧ St2 H4 H' d (keysL N) ad (addR s N l (ws.take (k + 1)) f1), rt := fun _ _ => False, bk := fun _ _ => False, ct := fun _ _ => False } [some (V.ref a), some (.ref p), some (nv s), some (nv N), some (.ref d), u5, u6, some (.ref qi), some (nv l), some (nv r), some (nv b), some (nv e)] H' := fun h0 => by
                obtain ⟨tp, Zs⟩ := Z.st
                have g : DGet H' d (nv b) (some (.ref (ad b))) := by
                  have := dget_keys (k := b) (.inl Zs.top)
                  rwa [if_pos hbK] at this
                have inn := Zs.inn b hbK
                refine ⟨_, rfl, _, rfl, d, _, rfl, g, ad b, rfl, .inl ⟨_, .inl inn⟩, _, rfl, _, rfl, _, rfl, by show 2 ≤ sizeLine; decide, fun t ht => ?_⟩
                have nat := ne_of_none inn ht
                refine ⟨_, kn e, by rw [upd_ne nat]; exact inn, rfl, ?_, fun x hx => ?_, fun hx => ?_⟩
                · rw [List.length_map]
                  obtain ⟨z1, z2⟩ := Z.ok b
                  have l1 := nodup_le z1 (r := keysL N) fun x hx => by
                    obtain ⟨y, hy, ey⟩ := List.mem_map.mp hx
                    rw [← ey]
                    exact z2 y hy
                  rw [List.length_map] at l1
                  have l2 := keysL_len hN0
                  have l3 : N * N ≤ 9 * 9 := Nat.mul_le_mul hN9 hN9
                  exact small_line (by omega)
                · rw [inner_eq (fun y => V.ref (tp b y)), valV_keys] at hx
                  have hm : e ∈ (f2 b).map (·.1) := by
                    apply Classical.byContradiction
                    intro h
                    rw [if_neg h] at hx
                    cases hx
                  refine ⟨_, _, _, _, _, rfl, ?_⟩
                  rw [eS, if_neg h0, if_pos ((any_fst _ _).mpr hm)]
                  exact Z.same (sNew ht)
                · have hx' := hx
                  rw [inner_eq (fun y => V.ref (tp b y)), valV_keys] at hx
                  have hm : e ∉ (f2 b).map (·.1) := fun h => by
                    rw [if_pos h] at hx
                    cases hx
                  refine ⟨_, _, _, _, _, rfl, ?_⟩
                  rw [eS, if_neg h0, if_neg (fun h => hm ((any_fst _ _).mp h)), putK_new _ hx']
                  exact Z.put Zs (fun c hc => (S.fr c hc).2) S.inj hbK heK ht hm
              refine ⟨_, rfl, rfl, _, rfl, ?_⟩
              refine ifN2 (fun hb0 => ?_) (fun hb0 => ?_)
              · exact go fun q => hb0 (nv_eq.mpr q.1)
              · refine ⟨_, rfl, rfl, _, rfl, ?_⟩
                refine ifN2 (fun he0 => ?_) (fun he0 => ?_)
                · exact go fun q => he0 (nv_eq.mpr q.2)
                · exact skip ⟨(nv_eq (b := 0)).mp hb0, (nv_eq (b := 0)).mp he0⟩
            · rintro σ H' ⟨u5, u6, u9, u10, u11, rfl, Z⟩
              refine ⟨_, _, _, _, _, _, rfl, ?_⟩
              rw [eS]
              rw [nvs_len, List.take_length] at Z
              exact Z
          · rintro σ H' ⟨u5, u6, u8, u9, u10, u11, rfl, Z⟩
            refine ⟨_, _, _, _, _, _, _, rfl, ?_⟩
            rw [eS]
            rw [nvs_len, List.take_length] at Z
            exact Z
      · rintro σ H' ⟨u5, u6, u7, u8, u9, u10, u11, rfl, Z⟩
        rw [List.length_map, LL.len, List.take_length] at Z
        obtain ⟨tp, Zs⟩ := Z.st
        refine ⟨_, rfl, kk H' d ad tp (fun y o hy => ?_) hd0 Zs⟩
        refine Z.but y o (s4 y o (S.sm y o (s2 y o (s1 y o hy)))) fun hm => ?_
        obtain ⟨b, hb, e⟩ := List.mem_map.mp hm
        have := (S.fr b hb).1
        rw [e] at this
        rw [s2 y o (s1 y o hy)] at this
        cases this
end
end K52
set_option Elab.async false
set_option maxRecDepth 100000
namespace K52
open PySem L2
theorem putK_keys {g : Nat → V} {k : Nat} {v : V} {K : List Nat} (h : k ∈ K) : putK (K.map fun b => (kn b, g b)) (kn k) v = K.map fun b => (kn b, if b = k then v else g b) := by
  unfold putK
  rw [if_pos (List.any_eq_true.mpr ⟨(kn k, g k), List.mem_map.mpr ⟨k, h, rfl⟩, by simp⟩), List.map_map]
  refine List.map_congr_left fun b _ => ?_
  show (if kn b = kn k then _ else _) = _
  by_cases e : b = k
  · rw [if_pos (kn_inj.mpr e), if_pos e]
  · rw [if_neg (fun q => e (kn_inj.mp q)), if_neg e]
theorem putK_upf {c : Nat → Int} {k : Nat} {x : Int} {K : List Nat} (h : k ∈ K) : putK (K.map fun b => (kn b, V.int (c b))) (kn k) (.int x) = K.map fun b => (kn b, V.int (upf c k x b)) := by
  rw [putK_keys h]
  refine List.map_congr_left fun b _ => ?_
  unfold upf
  split <;> rfl
theorem lock_back {H H' : Hp} {d : Addr} {od : Obj} {u : HO} (h : H d = some u) (e : Same (L2.upd H d (.frz od u)) H') : Same H (L2.upd H' d u) ∧ H' d = some (.frz od u) := by
  refine ⟨fun x o hx => ?_, e _ _ upd_same⟩
  by_cases q : x = d
  · rw [q] at hx ⊢
    rw [upd_same, ← h, hx]
  · rw [upd_ne q]
    exact e x o (by rw [upd_ne q]; exact hx)
theorem adj_of (f : SF) (b : Nat) : ((f b).map (·.1)).length = (f b).length := List.length_map _
/-- what ranked leans on -/
structure StG (K : List Nat) (f : SF) : Prop where
  gr : Gr K fun b => (f b).map (·.1)
  len : K.length ≤ 1000
section
variable {P : Program} {w : World} {K : PySem.W.Frag} {mg : Str → Option Value} {base : Heap}
abbrev st_steps_counted : Stmt := top 30
theorem sc_steps_counted : FnScope ["steps", "come", "begin", "end"] ["steps"] (defScope st_steps_counted) := ⟨rfl, rfl, rfl, by decide +kernel, rfl, by decide +kernel, by decide +kernel⟩
abbrev adjf (f : SF) : Nat → List Nat := fun b => (f b).map (·.1)
abbrev comeD (KK : List Nat) (c : Nat → Int) : HO := .dK (KK.map fun b => (kn b, V.int (c b)))
def sp_steps_counted : Sp := fun vs H Q _ => ∃ (d : Addr) (KK : List Nat) (f : SF) (ad : Nat → Addr) (tp : Nat → Nat → Addr), vs = [.ref d] ∧ StepsAt H d KK f ad tp ∧ StG KK f ∧
  ∀ (H' : Hp) (c : Addr), Same H H' → H c = none → H' c = some (comeD KK (comeF KK (adjf f))) → Q (.ref c) H'
/-- turns over a dict's keys, known by a list of numbers -/
theorem keys_at {KK : List Nat} {g : Nat → V} {i : Nat} {x : V} (h : ∃ k v, (KK.map fun b => (kn b, g b))[i]? = some (k, v) ∧ x = kV k) : ∃ b, KK[i]? = some b ∧ x = nv b := by
  obtain ⟨k, v, h1, rfl⟩ := h
  rw [List.getElem?_map] at h1
  cases e : KK[i]? with
  | none => rw [e] at h1; cases h1
  | some b =>
    rw [e] at h1
    obtain ⟨rfl, rfl⟩ := Prod.mk.inj (Option.some.inj h1)
    exact ⟨b, rfl, rfl⟩
theorem dget_int {H : Hp} {d : Addr} {KK : List Nat} {c : Nat → Int} {k : Nat} (h : Rd H d (comeD KK c)) (hk : k ∈ KK) : DGet H d (nv k) (some (.int (c k))) := by
  have := dget_keys (k := k) (g := fun b => V.int (c b)) h
  rwa [if_pos hk] at this
theorem has_steps_counted (F : FunC K mg "steps_counted" 30 ["steps"]) : Has P w K mg base 1 "steps_counted" ["steps"] sp_steps_counted := by
  obtain ⟨f, fd, F, C⟩ := F
  refine ⟨f, fd, F.ok sc_steps_counted (fun vs H Q E h => ?_) (fun cdv A outer s H vs Q E hr h => ?_), C⟩
  · obtain ⟨d, KK, f, ad, tp, rfl, _⟩ := h
    rfl
  · obtain ⟨d, KK, f, ad, tp, rfl, S, G, kk⟩ := h
    have hu := hu_of hr
    refine ⟨_, (pss_cons (ps_set (i := 1) sc_steps_counted.nd rfl (Or.inl rfl) pe_dnewK)
      (pss_cons (ps_lock (ps_for PassesOwn.never rfl (pi_keys (pv 0)) (pg_name (i := 2) sc_steps_counted.nd rfl (Or.inl rfl))
        (pss_one (ps_dput hu (pv 1) (pv 2) pe_int rfl))))
      (pss_cons (ps_lock (ps_for PassesOwn.never rfl (pi_keys (pv 0)) (pg_name (i := 2) sc_steps_counted.nd rfl (Or.inl rfl))
        (pss_one (ps_lock (ps_for PassesOwn.never rfl (pi_keys (pe_dget hu (pv 0) (pv 2) (fun _ _ => rfl))) (pg_name (i := 3) sc_steps_counted.nd rfl (Or.inl rfl))
          (pss_one (ps_daug hu (pv 1) (pv 3) pe_int in_add (fun _ _ _ => rfl))))))))
      (pss_one (ps_ret (pv 1)))))), ?_⟩
    intro c hc
    have ndc : d ≠ c := ne_of_none S.top hc
    have top1 : (L2.upd H c (.dK [])) d = some (.dK (KK.map fun b => (kn b, V.ref (ad b)))) := by rw [upd_ne ndc]; exact S.top
    refine ⟨d, _, top1, trivial, fun od => ?_⟩
    refine ⟨_, rfl, d, od, rfl, .inl ⟨_, upd_same, ?_⟩⟩
    refine for_it walk_keys (fun i σ H' => ∃ u, σ = [some (.ref d), some (.ref c), u, none] ∧ Same (L2.upd H d (.frz od (.dK (KK.map fun b => (kn b, V.ref (ad b)))))) H' ∧ H' c = some (comeD (KK.take i) fun _ => 0)) ⟨none, rfl, fun x o hx => ?_, ?_⟩ (fun i σ H' _ ⟨_, _, sm, _⟩ => sm _ _ upd_same) ?_ ?_
    · by_cases q : x = d
      · rw [q] at hx ⊢
        rw [upd_same] at hx ⊢
        exact hx
      · rw [upd_ne q] at hx ⊢
        rw [upd_ne (ne_of_none hx hc)]
        exact hx
    · rw [upd_ne (Ne.symm ndc), upd_same]
      rfl
    · rintro i x σ H' H'' hi ⟨u, rfl, sm, hC⟩ ⟨rfl, hx⟩
      obtain ⟨b, hb, rfl⟩ := keys_at hx
      have hn : b ∉ KK.take i := fun h => by
        obtain ⟨j, hj, e⟩ := List.mem_iff_getElem.mp h
        rw [List.length_take] at hj
        rw [List.getElem_take] at e
        obtain ⟨hi', e2⟩ := List.getElem?_eq_some_iff.mp hb
        have := (List.getElem_inj G.gr.nd).mp (e.trans e2.symm)
        omega
      have hc' : (L2.upd H d (.frz od (.dK (KK.map fun b => (kn b, V.ref (ad b)))))) c = none := by rw [upd_ne (Ne.symm ndc)]; exact hc
      refine ⟨_, rfl, _, rfl, c, _, rfl, DPut.k (k := kn b) hC ?_, _, rfl, sUp sm hc', ?_⟩
      · have := G.len
        rw [List.length_map, List.length_take]
        exact small_line (by omega)
      · have hv : valV ((KK.take i).map fun b => (kn b, V.int 0)) (kn b) = none := by rw [valV_keys, if_neg hn]
        rw [upd_same, putK_new _ hv, List.take_add_one, hb]
        show _ = some (HO.dK (List.map (fun b => (kn b, V.int 0)) (List.take i KK ++ [b])))
        rw [List.map_append]
        rfl
    · rintro σ H1 ⟨u, rfl, sm, hC⟩
      obtain ⟨sm1, hd1⟩ := lock_back S.top sm
      rw [List.length_map, List.take_length] at hC
      refine ⟨hd1, ?_⟩
      have hC1 : (L2.upd H1 d (.dK (KK.map fun b => (kn b, V.ref (ad b))))) c = some (comeD KK fun _ => 0) := by rw [upd_ne (Ne.symm ndc)]; exact hC
      generalize L2.upd H1 d (.dK (KK.map fun b => (kn b, V.ref (ad b)))) = H2 at sm1 hC1
      have S2 := S.same sm1
      have nc : ∀ x o, H x = some o → x ≠ c := fun x o e => ne_of_none e hc
      refine ⟨d, _, S2.top, trivial, fun od => ?_⟩
      refine ⟨_, rfl, d, od, rfl, .inl ⟨_, upd_same, ?_⟩⟩
      refine for_it walk_keys (fun i σ H' => ∃ u v, σ = [some (.ref d), some (.ref c), u, v] ∧ Same (L2.upd H d (.frz od (.dK (KK.map fun b => (kn b, V.ref (ad b)))))) H' ∧ H' c = some (comeD KK (comeF (KK.take i) (adjf f)))) ⟨_, none, rfl, fun x o hx => ?_, ?_⟩ (fun i σ H' _ ⟨_, _, _, sm, _⟩ => sm _ _ upd_same) ?_ ?_
      · by_cases q : x = d
        · rw [q] at hx ⊢
          rw [upd_same] at hx ⊢
          exact hx
        · rw [upd_ne q] at hx ⊢
          exact sm1 x o hx
      · rw [upd_ne (Ne.symm ndc)]
        exact hC1
      · rintro i x σ H' H'' hi ⟨u, v, rfl, sm, hC⟩ ⟨rfl, hx⟩
        obtain ⟨b, hb, rfl⟩ := keys_at hx
        have hbK := List.mem_of_getElem? hb
        have inn := S.inn b hbK
        have nbd := S.sep b hbK
        have nbc := nc _ _ inn
        have hc' : (L2.upd H d (.frz od (.dK (KK.map fun b => (kn b, V.ref (ad b)))))) c = none := by rw [upd_ne (Ne.symm ndc)]; exact hc
        have inn' : H'' (ad b) = some (.dK ((f b).map fun e => (kn e.1, V.ref (tp b e.1)))) := sm _ _ (by rw [upd_ne nbd]; exact inn)
        have top' : H'' d = some (.frz od (.dK (KK.map fun b => (kn b, V.ref (ad b))))) := sm _ _ upd_same
        have eC : comeF (KK.take (i + 1)) (adjf f) = (adjf f b).foldl (fun c e => upf c e (c e + 1)) (comeF (KK.take i) (adjf f)) := by
          unfold comeF
          rw [List.take_add_one, hb, List.foldl_append]
          rfl
        generalize comeF (KK.take i) (adjf f) = c0 at hC eC
        refine ⟨ad b, _, inn', trivial, fun od2 => ?_⟩
        have g : DGet (L2.upd H'' (ad b) (.frz od2 (.dK ((f b).map fun e => (kn e.1, V.ref (tp b e.1)))))) d (nv b) (some (.ref (ad b))) := by
          have rt : (L2.upd H'' (ad b) (.frz od2 (.dK ((f b).map fun e => (kn e.1, V.ref (tp b e.1)))))) d = some (.frz od (.dK (KK.map fun b => (kn b, V.ref (ad b))))) := by rw [upd_ne (Ne.symm nbd)]; exact top'
          have := dget_keys (k := b) (g := fun b => V.ref (ad b)) (.inr ⟨od, rt⟩)
          rwa [if_pos hbK] at this
        refine ⟨_, rfl, _, rfl, d, _, rfl, g, ad b, od2, rfl, .inl ⟨_, upd_same, ?_⟩⟩
        have inE := inner_eq (fun y => V.ref (tp b y)) (f b)
        rw [inE] at inn' ⊢
        refine for_it walk_keys (fun j σ H' => ∃ v, σ = [some (.ref d), some (.ref c), some (nv b), v] ∧ Same (L2.upd H'' (ad b) (.frz od2 (.dK (((f b).map (·.1)).map fun y => (kn y, V.ref (tp b y)))))) (L2.upd H' c (comeD KK c0)) ∧ H' c = some (comeD KK (((adjf f b).take j).foldl (fun c e => upf c e (c e + 1)) c0))) ⟨_, rfl, fun x o hx => ?_, ?_⟩ (fun j σ H' _ ⟨_, _, sm, _⟩ => ?_) ?_ ?_
        · by_cases q : x = c
          · rw [q] at hx ⊢
            rw [upd_same, ← hC, ← hx, upd_ne (Ne.symm nbc)]
          · rw [upd_ne q]
            exact hx
        · rw [upd_ne (Ne.symm nbc)]
          exact hC
        · have := sm (ad b) _ upd_same
          rw [upd_ne nbc] at this
          exact this
        · rintro j x σ H3 H4 hj ⟨v, rfl, sm3, hC3⟩ ⟨rfl, hx⟩
          obtain ⟨e, he, rfl⟩ := keys_at hx
          have heK : e ∈ KK := (G.gr.each b hbK).2 e (List.mem_of_getElem? he)
          have eC3 : ((adjf f b).take (j + 1)).foldl (fun c e => upf c e (c e + 1)) c0 = upf (((adjf f b).take j).foldl (fun c e => upf c e (c e + 1)) c0) e ((((adjf f b).take j).foldl (fun c e => upf c e (c e + 1)) c0) e + 1) := by
            rw [List.take_add_one, he, List.foldl_append]
            rfl
          generalize ((adjf f b).take j).foldl (fun c e => upf c e (c e + 1)) c0 = c1 at hC3 eC3
          refine ⟨_, rfl, _, rfl, c, _, rfl, dget_int (.inl hC3) heK, _, _, rfl, rfl, _, DPut.k (k := kn e) hC3 ?_, _, rfl, ?_, ?_⟩
          · have := G.len
            rw [List.length_map]
            exact small_line (by omega)
          · rw [upd_upd]
            exact sm3
          · rw [upd_same, putK_upf heK, eC3]
        · rintro σ H3 ⟨v, rfl, sm3, hC3⟩
          have hb3 : H3 (ad b) = some (.frz od2 (.dK (((f b).map (·.1)).map fun y => (kn y, V.ref (tp b y))))) := by
            have := sm3 (ad b) _ upd_same
            rw [upd_ne nbc] at this
            exact this
          refine ⟨hb3, _, _, rfl, fun x o hx => ?_, ?_⟩
          · have nxc : x ≠ c := ne_of_none hx hc'
            by_cases q : x = ad b
            · rw [q] at hx ⊢
              rw [upd_same, ← inn', ← sm _ _ hx]
            · rw [upd_ne q]
              have := sm3 x o (by rw [upd_ne q]; exact sm x o hx)
              rw [upd_ne nxc] at this
              exact this
          · rw [upd_ne (Ne.symm nbc), hC3, eC, List.length_map, List.take_length]
      · rintro σ H3 ⟨u, v, rfl, sm3, hC3⟩
        obtain ⟨sm4, hd4⟩ := lock_back S.top sm3
        rw [List.length_map, List.take_length] at hC3
        refine ⟨hd4, _, rfl, kk _ c sm4 hc ?_⟩
        rw [upd_ne (Ne.symm ndc)]
        exact hC3
end
end K52
set_option Elab.async false
set_option maxRecDepth 100000
namespace K52
open PySem L2
/-- a dict of ranks -/
def RkAt (H : Hp) (a : Addr) (KK : List Nat) (rk : Nat → Option Int) : Prop := ∃ kvs : List (Key × V), H a = some (.dK kvs) ∧ (∀ k, valV kvs (kn k) = (rk k).map V.int) ∧ (kvs.map (·.1)).Nodup ∧ ∀ k ∈ kvs.map (·.1), ∃ b ∈ KK, k = kn b
theorem RkAt.same {H H' : Hp} {a : Addr} {KK : List Nat} {rk : Nat → Option Int} (r : RkAt H a KK rk) (e : Same H H') : RkAt H' a KK rk := by
  obtain ⟨kvs, h1, h2⟩ := r
  exact ⟨kvs, e _ _ h1, h2⟩
theorem RkAt.at {H H' : Hp} {a : Addr} {KK : List Nat} {rk : Nat → Option Int} (r : RkAt H a KK rk) (e : H' a = H a) : RkAt H' a KK rk := by
  obtain ⟨kvs, h1, h2⟩ := r
  exact ⟨kvs, e.trans h1, h2⟩
theorem keys_put {kvs : List (Key × V)} {k : Key} {v x : V} (h : valV kvs k = some x) : (putK kvs k v).map (·.1) = kvs.map (·.1) := by
  have h1 : (kvs.any fun kv => decide (kv.1 = k)) = true := by rw [valV_any, h]; rfl
  unfold putK
  rw [if_pos h1, List.map_map]
  refine List.map_congr_left fun y _ => ?_
  show (if y.1 = k then (y.1, v) else y).1 = y.1
  split <;> rfl
theorem RkAt.len {H : Hp} {a : Addr} {KK : List Nat} {rk : Nat → Option Int} {kvs : List (Key × V)} (h3 : (kvs.map (·.1)).Nodup) (h4 : ∀ k ∈ kvs.map (·.1), ∃ b ∈ KK, k = kn b) : kvs.length ≤ KK.length := by
  have := nodup_le (r := KK.map kn) h3 fun k hk => by
    obtain ⟨b, hb, e⟩ := h4 k hk
    exact List.mem_map.mpr ⟨b, hb, e.symm⟩
  rwa [List.length_map, List.length_map] at this
theorem RkAt.put {H : Hp} {a : Addr} {KK : List Nat} {rk : Nat → Option Int} {b : Nat} {x : Int} (r : RkAt H a KK rk) (hb : b ∈ KK) : ∃ kvs, H a = some (.dK kvs) ∧ kvs.length ≤ KK.length ∧ RkAt (L2.upd H a (.dK (putK kvs (kn b) (.int x)))) a KK (upf rk b (some x)) := by
  obtain ⟨kvs, h1, h2, h3, h4⟩ := r
  refine ⟨kvs, h1, RkAt.len (H := H) (a := a) (rk := rk) h3 h4, _, upd_same, fun k => ?_, ?_, ?_⟩
  · rw [valV_put]
    by_cases e : k = b
    · rw [if_pos (kn_inj.mpr e), e, upf_same]
      rfl
    · rw [if_neg (fun q => e (kn_inj.mp q)), upf_ne _ _ e, h2]
  · cases e : valV kvs (kn b) with
    | none => exact nd_putK _ h3 e
    | some y => rw [keys_put e]; exact h3
  · intro k hk
    cases e : valV kvs (kn b) with
    | none =>
      rw [putK_new _ e, List.map_append] at hk
      rcases List.mem_append.mp hk with q | q
      · exact h4 k q
      · exact ⟨b, hb, by simpa using q⟩
    | some y =>
      rw [keys_put e] at hk
      exact h4 k hk
theorem RkAt.get {H : Hp} {a : Addr} {KK : List Nat} {rk : Nat → Option Int} (r : RkAt H a KK rk) (k : Nat) : DGet H a (nv k) ((rk k).map V.int) := by
  obtain ⟨kvs, h1, h2, _⟩ := r
  exact .inl ⟨kvs, kn k, .inl h1, rfl, (h2 k).symm⟩
theorem RkAt.isD {H : Hp} {a : Addr} {KK : List Nat} {rk : Nat → Option Int} (r : RkAt H a KK rk) : IsD H a := by
  obtain ⟨kvs, h1, _⟩ := r
  exact .inl ⟨kvs, .inl h1⟩
theorem max_eq (i j : Int) : (if j > i then j else i) = max i j := by
  rw [Int.max_def]
  by_cases h : i ≤ j
  · rw [if_pos h]
    split <;> omega
  · rw [if_neg h]
    split <;> omega
theorem kEnd_len (b : Nat) (S : KS) (e : Nat) : (kEnd b S e).ready.length ≤ S.ready.length + 1 := by
  show (if S.come e - 1 = 0 then S.ready ++ [e] else S.ready).length ≤ _
  split
  · simp
  · omega
theorem kEnd_some {b : Nat} {S : KS} {e : Nat} (h : (S.rank b).isSome) : ((kEnd b S e).rank b).isSome := by
  show (upf S.rank e _ b).isSome
  unfold upf
  split
  · rfl
  · exact h
/-- what a turn changes: come, ready, rank -/
structure RSt (H0 H : Hp) (KK : List Nat) (c rd rk : Addr) (S : KS) : Prop where
  but : But [c, rd, rk] H0 H
  come : H c = some (comeD KK S.come)
  ready : H rd = some (.lst (nvs S.ready))
  rank : RkAt H rk KK S.rank
section
variable {P : Program} {w : World} {K : PySem.W.Frag} {mg : Str → Option Value} {base : Heap}
abbrev st_ranked : Stmt := top 31
theorem sc_ranked : FnScope ["steps", "come", "ready", "rank", "at", "begin", "end", "told"] ["steps"] (defScope st_ranked) := ⟨rfl, rfl, rfl, by decide +kernel, rfl, by decide +kernel, by decide +kernel⟩
def rkI (S : KS) (b : Nat) : Int := (S.rank b).getD 0
def sp_ranked : Sp := fun vs H Q _ => ∃ (d : Addr) (KK : List Nat) (f : SF) (ad : Nat → Addr) (tp : Nat → Nat → Addr), vs = [.ref d] ∧ StepsAt H d KK f ad tp ∧ StG KK f ∧
  ∀ (H' : Hp) (c : Addr), Same H H' → H c = none → H' c = some (comeD (kahn KK (adjf f)).ready (rkI (kahn KK (adjf f)))) → Q (.ref c) H'
theorem has_ranked (F : FunC K mg "ranked" 31 ["steps"]) (T : Bt mg) (h_steps_counted : Has P w K mg base 1 "steps_counted" ["steps"] sp_steps_counted) : Has P w K mg base 2 "ranked" ["steps"] sp_ranked := by
  obtain ⟨_, _, G_steps_counted, C_steps_counted⟩ := h_steps_counted
  obtain ⟨f, fd, F, C⟩ := F
  refine ⟨f, fd, F.ok sc_ranked (fun vs H Q E h => ?_) (fun cdv A outer s H vs Q E hr h => ?_), C⟩
  · obtain ⟨d, KK, f, ad, tp, rfl, _⟩ := h
    rfl
  · obtain ⟨d, KK, f, ad, tp, rfl, St, G, kk⟩ := h
    have hu := hu_of hr
    refine ⟨_, (pss_cons (ps_set (i := 1) sc_ranked.nd rfl (Or.inr rfl) (pe_call G_steps_counted hr rfl C_steps_counted.mg C_steps_counted.kp C_steps_counted.b .nil pass0 (pa_cons (pv 0) pa_nil)))
      (pss_cons (ps_lock (ps_setLc (i := 2) (own := [("begin", 5)]) (g := gName 5) (by rfl) sc_ranked.nd rfl rfl (sw_true rfl rfl rfl (by decide +kernel)) (pi_keys (pv 0)) (blkOk_by (own := [("begin", 5)]) (N := ["steps", "come", "ready", "rank", "at", "begin", "end", "told"]) (sc := defScope st_ranked) (by decide +kernel)) (fun _ _ _ _ _ => pg_name (i := 5) sc_ranked.nd rfl (Or.inl rfl)) (fun _ _ _ _ _ => pts_one (pt_cmpR op_eq (pe_dget hu (pv 1) (pv 5) (fun _ _ => rfl)) pe_int (nomark _))) (fun _ _ _ _ _ => (pv 5))))
      (pss_cons (ps_set (i := 3) sc_ranked.nd rfl (Or.inl rfl) pe_dnewK)
      (pss_cons (ps_set (i := 4) sc_ranked.nd rfl (Or.inl rfl) pe_int)
      (pss_cons (ps_while PassesOwn.never (pt_cmpR op_lt (pv 4) (pe_callB call_len_seq (by rfl) T.len PySem.boot_len (pa_cons (pv 2) pa_nil)) (nomark _))
        (pss_cons (ps_set (i := 5) sc_ranked.nd rfl (Or.inl rfl) (pe_ix ix_list (pv 2) (pv 4) (fun _ _ => rfl)))
        (pss_cons (ps_expr (pe_dsetd (pv 3) (pv 5) pe_int ⟨rfl, rfl, rfl, rfl⟩))
        (pss_cons (ps_lock (ps_for PassesOwn.never rfl (pi_keys (pe_dget hu (pv 0) (pv 5) (fun _ _ => rfl))) (pg_name (i := 6) sc_ranked.nd rfl (Or.inl rfl))
          (pss_cons (ps_dput hu (pv 3) (pv 6) (pe_callB (call_max2 rfl) (by rfl) T.max (by decide +kernel) (pa_cons (pe_dget2 hu (pv 3) (pv 6) pe_int ⟨rfl, rfl, rfl, rfl⟩) (pa_cons (pe_op op_add (pe_dget hu (pv 3) (pv 5) (fun _ _ => rfl)) pe_int) pa_nil))) rfl)
          (pss_cons (ps_daug hu (pv 1) (pv 6) pe_int in_sub (fun _ _ _ => rfl))
          (pss_one (ps_if (pt_cmpR op_eq (pe_dget hu (pv 1) (pv 6) (fun _ _ => rfl)) pe_int (nomark _))
            (pss_one (ps_expr (pe_bm PySem.F.plainAttrs_list PySem.F.slot_list_append PySem.F.type_list_append mt_append (pv 2) (pa_cons (pv 6) pa_nil))))
            pss_nil))))))
        (pss_one (ps_aug (i := 4) sc_ranked.nd rfl (Or.inl rfl) pe_int ip_add))))))
      (pss_cons (ps_set (i := 7) sc_ranked.nd rfl (Or.inl rfl) pe_dnewK)
      (pss_cons (ps_for PassesOwn.never rfl (pi_list (pv 2)) (pg_name (i := 5) sc_ranked.nd rfl (Or.inl rfl))
        (pss_one (ps_dput hu (pv 7) (pv 5) (pe_dget hu (pv 3) (pv 5) (fun _ _ => rfl)) rfl)))
      (pss_one (ps_ret (pv 7)))))))))), ?_⟩
    have hKl := G.len
    -- come
    refine ⟨_, rfl, d, KK, f, ad, tp, rfl, St, G, fun H1 c s1 nc hC => ?_⟩
    have St1 := St.same s1
    have ndc : d ≠ c := ne_of_none St.top nc
    -- ready
    refine ⟨d, _, St1.top, trivial, fun od => ?_⟩
    refine ⟨_, rfl, d, od, rfl, .inl ⟨_, upd_same, fun D hD => ?_⟩⟩
    refine lc_it walk_keys (fun i H' => Same (L2.upd H1 d (.frz od (.dK (KK.map fun b => (kn b, V.ref (ad b)))))) H' ∧ H' D = some (.lst (nvs ((KK.take i).filter fun b => decide (comeF KK (adjf f) b = 0))))) ⟨sNew hD, upd_same⟩ (fun i H' _ ⟨sm, _⟩ => sm _ _ upd_same) ?_ ?_
    · rintro i x H' H'' hi ⟨sm, hL⟩ ⟨rfl, hx⟩
      obtain ⟨b, hb, rfl⟩ := keys_at hx
      have hbK := List.mem_of_getElem? hb
      have hC' : H'' c = some (comeD KK (comeF KK (adjf f))) := sm _ _ (by rw [upd_ne (Ne.symm ndc)]; exact hC)
      refine ⟨rfl, _, rfl, _, rfl, c, _, rfl, dget_int (.inl hC') hbK, rfl, _, rfl, ?_⟩
      have eT : KK.take (i + 1) = KK.take i ++ [b] := by rw [List.take_add_one, hb]; rfl
      refine if2 (fun h => ?_) (fun h => ?_)
      · have h0 : comeF KK (adjf f) b = 0 := by injection h
        refine ⟨_, rfl, _, hL, small_line ?_, sUp sm hD, ?_⟩
        · have := List.length_filter_le (fun b => decide (comeF KK (adjf f) b = 0)) (KK.take i)
          rw [List.length_take] at this
          rw [nvs_len]
          omega
        · rw [upd_same, eT, List.filter_append, List.filter_cons_of_pos (by simpa using h0), List.filter_nil]
          show _ = some (HO.lst (List.map nv (_ ++ [b])))
          rw [List.map_append]
          rfl
      · have h0 : comeF KK (adjf f) b ≠ 0 := fun e => h (by rw [e])
        refine ⟨sm, ?_⟩
        rw [hL, eT, List.filter_append, List.filter_cons_of_neg (by simpa using h0), List.filter_nil, List.append_nil]
    · rintro H2 ⟨sm, hL⟩
      obtain ⟨sm2, hd2⟩ := lock_back St1.top sm
      rw [List.length_map, List.take_length] at hL
      refine ⟨hd2, ?_⟩
      have nDd : D ≠ d := fun e => by rw [e, upd_same] at hD; cases hD
      have hD1 : H1 D = none := by rw [upd_ne nDd] at hD; exact hD
      have hL2 : (L2.upd H2 d (.dK (KK.map fun b => (kn b, V.ref (ad b))))) D = some (.lst (nvs (kStart KK (adjf f)).ready)) := by rw [upd_ne nDd]; exact hL
      generalize L2.upd H2 d (.dK (KK.map fun b => (kn b, V.ref (ad b)))) = H3 at sm2 hL2
      -- rank
      intro rk hrk
      have ncD : c ≠ D := ne_of_none hC hD1
      have nck : c ≠ rk := ne_of_none (sm2 _ _ hC) hrk
      have nDk : D ≠ rk := ne_of_none hL2 hrk
      have hH0 : ∀ x ∈ [c, D, rk], H x = none := fun x hx => by
        rcases List.mem_cons.mp hx with e | hx
        · rw [e]; exact nc
        · rcases List.mem_cons.mp hx with e | hx
          · rw [e]; exact s1.free hD1
          · rw [List.mem_singleton.mp hx]; exact s1.free (sm2.free hrk)
      have start : RSt H (L2.upd H3 rk (.dK [])) KK c D rk (kStart KK (adjf f)) :=
        ⟨fun x o hx hn => sNew hrk _ _ (sm2 _ _ (s1 _ _ hx)), by rw [upd_ne nck]; exact sm2 _ _ hC, by rw [upd_ne nDk]; exact hL2, [], upd_same, fun k => rfl, List.nodup_nil, fun k hk => by cases hk⟩
      have nin : ∀ x o, H x = some o → x ∉ [c, D, rk] := fun x o h q => by
        rw [hH0 x q] at h
        cases h
      have keepSt : ∀ {H' : Hp}, But [c, D, rk] H H' → StepsAt H' d KK f ad tp := fun {H'} b =>
        ⟨b _ _ St.top (nin _ _ St.top), fun x hx => b _ _ (St.inn x hx) (nin _ _ (St.inn x hx)), fun x hx y hy => b _ _ (St.tup x hx y hy) (nin _ _ (St.tup x hx y hy)), St.sep⟩
      refine ⟨fun m σ H' => ∃ i S u5 u6, m = KK.length - i ∧ σ = [some (.ref d), some (.ref c), some (.ref D), some (.ref rk), some (nv i), u5, u6, none] ∧ RSt H H' KK c D rk S ∧ KInv KK (adjf f) i S ∧ kLoop (adjf f) (KK.length - i) i S = kahn KK (adjf f), ⟨KK.length - 0, 0, _, _, _, rfl, rfl, start, kStart_ok G.gr, rfl⟩, ?_⟩
      rintro m σ H' ⟨i, S, u5, u6, rfl, rfl, R, I, eK⟩
      refine ⟨_, rfl, _, rfl, D, _, rfl, .inl (SqL.of R.ready), _, _, rfl, rfl, _, rfl, ?_⟩
      rw [nvs_len]
      refine if2 (fun hlt => ?_) (fun hge => ?_)
      · -- a turn
        have hi : i < S.ready.length := by omega
        have hiK : S.ready.length ≤ KK.length := nodup_le I.nd I.sub
        have eb : S.ready[i]? = some S.ready[i] := List.getElem?_eq_getElem hi
        generalize S.ready[i] = b at eb
        have hbK : b ∈ KK := I.sub b (List.mem_of_getElem? eb)
        have eK2 : kLoop (adjf f) (KK.length - (i + 1)) (i + 1) (kBegin (adjf f) S b) = kahn KK (adjf f) := by
          rw [← eK, show KK.length - i = (KK.length - (i + 1)) + 1 by omega, kLoop, eb]
        refine ⟨fun σ' H'' => ∃ u6, σ' = [some (.ref d), some (.ref c), some (.ref D), some (.ref rk), some (nv (i + 1)), some (nv b), u6, none] ∧ RSt H H'' KK c D rk (kBegin (adjf f) S b), ?_, ?_⟩
        · rintro σ' H'' ⟨u6, rfl, R2⟩
          exact ⟨_, by omega, i + 1, _, _, _, rfl, rfl, R2, (kBegin_ok G.gr I eb).1, eK2⟩
        refine ⟨_, rfl, _, rfl, D, _, _, _, rfl, rfl, SqL.of R.ready, atI_nat (nvs_at eb), ?_⟩
        -- rank.setdefault(begin, 0), and what follows
        obtain ⟨kvs, k1, k2, k3, k4⟩ := id R.rank
        have key : ∀ Rr : Hp → Prop, (∀ H5, RSt H H5 KK c D rk (kSet S b) → Rr H5) → (∀ v, valV kvs (kn b) = some v → Rr H') ∧ (valV kvs (kn b) = none → Rr (L2.upd H' rk (.dK (putK kvs (kn b) (.int 0))))) := by
          intro Rr hR
          have hv := k2 b
          refine ⟨fun v e => hR _ ⟨R.but, R.come, R.ready, ?_⟩, fun e => hR _ ⟨R.but.up (by simp), ?_, ?_, ?_⟩⟩
          · show RkAt H' rk KK (if (S.rank b).isSome then S.rank else upf S.rank b (some 0))
            rw [e] at hv
            rw [if_pos (by cases q : S.rank b with
              | none => rw [q] at hv; cases hv
              | some x => rfl)]
            exact R.rank
          · rw [upd_ne nck]
            exact R.come
          · rw [upd_ne nDk]
            exact R.ready
          · show RkAt _ rk KK (if (S.rank b).isSome then S.rank else upf S.rank b (some 0))
            rw [e] at hv
            rw [if_neg (by cases q : S.rank b with
              | none => simp
              | some x => rw [q] at hv; cases hv)]
            obtain ⟨kvs', j1, _, j2⟩ := R.rank.put (b := b) (x := 0) hbK
            rw [k1] at j1
            cases j1
            exact j2
        refine ⟨_, rfl, rk, rfl, R.rank.isD, _, rfl, kvs, kn b, k1, rfl, small_line (by have := RkAt.len (H := H') (a := rk) (rk := S.rank) k3 k4; omega), ?_⟩
        refine key _ fun H5 R5 => ?_
        have St5 := keepSt R5.but
        have inn := St5.inn b hbK
        have nbc : ∀ x ∈ [c, D, rk], ad b ≠ x := fun x hx e => nin _ _ (St.inn b hbK) (by rw [e]; exact hx)
        have nbd := St.sep b hbK
        have ndx : ∀ x ∈ [c, D, rk], d ≠ x := fun x hx e => nin _ _ St.top (by rw [e]; exact hx)
        refine ⟨ad b, _, inn, trivial, fun od2 => ?_⟩
        have g : DGet (L2.upd H5 (ad b) (.frz od2 (.dK ((f b).map fun e => (kn e.1, V.ref (tp b e.1)))))) d (nv b) (some (.ref (ad b))) := by
          have rt : (L2.upd H5 (ad b) (.frz od2 (.dK ((f b).map fun e => (kn e.1, V.ref (tp b e.1)))))) d = some (.dK (KK.map fun b => (kn b, V.ref (ad b)))) := by rw [upd_ne (Ne.symm nbd)]; exact St5.top
          have := dget_keys (k := b) (g := fun b => V.ref (ad b)) (.inl rt)
          rwa [if_pos hbK] at this
        refine ⟨_, rfl, _, rfl, d, _, rfl, g, ad b, od2, rfl, .inl ⟨_, upd_same, ?_⟩⟩
        have inE := inner_eq (fun y => V.ref (tp b y)) (f b)
        rw [inE] at inn ⊢
        have bsome : ((kSet S b).rank b).isSome := by
          show ((if (S.rank b).isSome then S.rank else upf S.rank b (some 0)) b).isSome
          split
          · rename_i h; exact h
          · rw [upf_same]; rfl
        have hal : (adjf f b).length ≤ KK.length := nodup_le (G.gr.each b hbK).1 (G.gr.each b hbK).2
        -- what the inner loop keeps: but come, ready, rank and the lock all stands
        refine for_it walk_keys (fun j σ H' => ∃ u6, σ = [some (.ref d), some (.ref c), some (.ref D), some (.ref rk), some (nv i), some (nv b), u6, none] ∧ H' (ad b) = some (.frz od2 (.dK (((f b).map (·.1)).map fun y => (kn y, V.ref (tp b y))))) ∧
            (((adjf f b).take j).foldl (kEnd b) (kSet S b)).ready.length ≤ S.ready.length + j ∧ ((((adjf f b).take j).foldl (kEnd b) (kSet S b)).rank b).isSome ∧ RSt H (L2.upd H' (ad b) (.dK (((f b).map (·.1)).map fun y => (kn y, V.ref (tp b y))))) KK c D rk (((adjf f b).take j).foldl (kEnd b) (kSet S b)))
          ⟨_, rfl, upd_same, Nat.le_refl _, bsome, ?_⟩ (fun j σ H' _ ⟨_, _, h, _⟩ => h) ?_ ?_
        · rw [upd_upd]
          have e : L2.upd H5 (ad b) (.dK (((f b).map (·.1)).map fun y => (kn y, V.ref (tp b y)))) = H5 := by
            funext x
            by_cases q : x = ad b
            · rw [q, upd_same, inn]
            · rw [upd_ne q]
          rw [e]
          exact R5
        · rintro j x σ H6 H7 hj ⟨u6, rfl, hfz, hlen, hsome, R6⟩ ⟨rfl, hx⟩
          obtain ⟨e, he, rfl⟩ := keys_at hx
          have heK : e ∈ KK := (G.gr.each b hbK).2 e (List.mem_of_getElem? he)
          have eF : ((adjf f b).take (j + 1)).foldl (kEnd b) (kSet S b) = kEnd b (((adjf f b).take j).foldl (kEnd b) (kSet S b)) e := by
            rw [List.take_add_one, he, List.foldl_append]
            rfl
          generalize ((adjf f b).take j).foldl (kEnd b) (kSet S b) = S6 at hlen hsome R6 eF
          have hjl : j < (adjf f b).length := (List.getElem?_eq_some_iff.mp he).1
          have at7 : ∀ x, x ≠ ad b → ∀ o, (L2.upd H7 (ad b) o) x = H7 x := fun x hx o => upd_ne hx
          have com7 : H7 c = some (comeD KK S6.come) := by rw [← at7 c (Ne.symm (nbc c (by simp)))]; exact R6.come
          have rdy7 : H7 D = some (.lst (nvs S6.ready)) := by rw [← at7 D (Ne.symm (nbc D (by simp)))]; exact R6.ready
          have rnk7 : RkAt H7 rk KK S6.rank := R6.rank.at (at7 rk (Ne.symm (nbc rk (by simp))) _).symm
          obtain ⟨rb, hrb⟩ := Option.isSome_iff_exists.mp hsome
          have gb : DGet H7 rk (nv b) (some (.int rb)) := by have := rnk7.get b; rwa [hrb] at this
          obtain ⟨kvs7, j1, j2, j3⟩ := rnk7.put (b := e) (x := max ((S6.rank e).getD 0) ((S6.rank b).getD 0 + 1)) heK
          have emx : (((S6.rank e).map V.int).getD (V.int 0)) = V.int ((S6.rank e).getD 0) := by cases S6.rank e <;> rfl
          refine ⟨_, rfl, rk, rfl, rnk7.isD, _, rfl, _, rnk7.get e, ?_⟩
          rw [emx]
          refine ⟨_, rfl, _, rfl, rk, _, rfl, gb, _, _, rfl, rfl, _, _, rfl, ?_⟩
          refine ⟨_, rfl, _, rfl, rk, _, rfl, DPut.k (k := kn e) j1 (small_line (by omega)), ?_⟩
          have erb : rb + 1 = (S6.rank b).getD 0 + 1 := by rw [hrb]; rfl
          rw [max_eq, erb]
          generalize hH8 : L2.upd H7 rk (.dK (putK kvs7 (kn e) (.int (max ((S6.rank e).getD 0) ((S6.rank b).getD 0 + 1))))) = H8 at j3 ⊢
          have com8 : H8 c = some (comeD KK S6.come) := by rw [← hH8, upd_ne nck]; exact com7
          have rdy8 : H8 D = some (.lst (nvs S6.ready)) := by rw [← hH8, upd_ne nDk]; exact rdy7
          refine ⟨_, rfl, _, rfl, c, _, rfl, dget_int (.inl com8) heK, _, _, rfl, rfl, _, DPut.k (k := kn e) com8 (by rw [List.length_map]; exact small_line (by omega)), ?_⟩
          rw [putK_upf heK]
          have com9 : (L2.upd H8 c (comeD KK (upf S6.come e (S6.come e - 1)))) c = some (comeD KK (upf S6.come e (S6.come e - 1))) := upd_same
          have rdy9 : (L2.upd H8 c (comeD KK (upf S6.come e (S6.come e - 1)))) D = some (.lst (nvs S6.ready)) := by rw [upd_ne (Ne.symm ncD)]; exact rdy8
          have rnk9 : RkAt (L2.upd H8 c (comeD KK (upf S6.come e (S6.come e - 1)))) rk KK (kEnd b S6 e).rank := j3.at (upd_ne (Ne.symm nck))
          have fz9 : (L2.upd H8 c (comeD KK (upf S6.come e (S6.come e - 1)))) (ad b) = some (.frz od2 (.dK (((f b).map (·.1)).map fun y => (kn y, V.ref (tp b y))))) := by rw [upd_ne (nbc c (by simp)), ← hH8, upd_ne (nbc rk (by simp))]; exact hfz
          have but9 : But [c, D, rk] H (L2.upd (L2.upd H8 c (comeD KK (upf S6.come e (S6.come e - 1)))) (ad b) (.dK (((f b).map (·.1)).map fun y => (kn y, V.ref (tp b y))))) := fun x o hx hn => by
            have h0 := R6.but x o hx hn
            by_cases q : x = ad b
            · rw [q] at h0 ⊢
              rw [upd_same] at h0 ⊢
              exact h0
            · rw [upd_ne q] at h0 ⊢
              rw [upd_ne (fun z => hn (by simp [z])), ← hH8, upd_ne (fun z => hn (by simp [z]))]
              exact h0
          generalize L2.upd H8 c (comeD KK (upf S6.come e (S6.come e - 1))) = H9 at com9 rdy9 rnk9 fz9 but9
          have g9 : DGet H9 c (nv e) (some (.int (S6.come e - 1))) := by
            have := dget_int (.inl com9) heK
            rwa [upf_same] at this
          refine ⟨_, rfl, _, rfl, c, _, rfl, g9, rfl, _, rfl, ?_⟩
          refine if2 (fun h => ?_) (fun h => ?_)
          · have h0 : S6.come e - 1 = 0 := by injection h
            refine ⟨_, rfl, .inl ⟨rfl, _, SqL.of rdy9⟩, _, rfl, D, _, _, rfl, rfl, rdy9, small_line (by rw [nvs_len]; omega), ?_⟩
            have eR : (kEnd b S6 e).ready = S6.ready ++ [e] := if_pos h0
            refine ⟨_, rfl, by rw [upd_ne (nbc D (by simp))]; exact fz9, by rw [eF]; exact Nat.le_trans (kEnd_len b S6 e) (by omega), by rw [eF]; exact kEnd_some hsome, ?_⟩
            rw [eF]
            refine ⟨fun x o hx hn => ?_, ?_, ?_, ?_⟩
            · have h0 := but9 x o hx hn
              by_cases q : x = ad b
              · rw [q] at h0 ⊢
                rw [upd_same] at h0 ⊢
                exact h0
              · rw [upd_ne q] at h0 ⊢
                rw [upd_ne (fun z => hn (by simp [z]))]
                exact h0
            · rw [upd_ne (Ne.symm (nbc c (by simp))), upd_ne ncD]
              exact com9
            · rw [upd_ne (Ne.symm (nbc D (by simp))), upd_same, eR]
              show _ = some (HO.lst (List.map nv (_ ++ [e])))
              rw [List.map_append]
              rfl
            · exact rnk9.at (by rw [upd_ne (Ne.symm (nbc rk (by simp))), upd_ne (Ne.symm nDk)])
          · have h0 : ¬ S6.come e - 1 = 0 := fun z => h (by rw [z])
            have eR : (kEnd b S6 e).ready = S6.ready := if_neg h0
            refine ⟨_, rfl, fz9, by rw [eF]; exact Nat.le_trans (kEnd_len b S6 e) (by omega), by rw [eF]; exact kEnd_some hsome, ?_⟩
            rw [eF]
            refine ⟨but9, ?_, ?_, ?_⟩
            · rw [upd_ne (Ne.symm (nbc c (by simp)))]
              exact com9
            · rw [upd_ne (Ne.symm (nbc D (by simp))), eR]
              exact rdy9
            · exact rnk9.at (upd_ne (Ne.symm (nbc rk (by simp))))
        · rintro σ H6 ⟨u6, rfl, hfz, _, _, R6⟩
          rw [List.length_map, List.take_length] at R6
          refine ⟨hfz, ?_⟩
          exact ⟨_, rfl, _, _, rfl, rfl, _, rfl, R6⟩
      · have hge : S.ready.length ≤ i := by omega
        have eS : S = kahn KK (adjf f) := by
          rw [← eK]
          cases KK.length - i with
          | zero => rfl
          | succ n => rw [kLoop, List.getElem?_eq_none hge]
        have T2 := kahn_told G.gr
        rw [← eS] at T2 kk
        -- told
        intro t ht
        have ncT : ∀ x o, H' x = some o → x ≠ t := fun x o e => ne_of_none e ht
        have rdT : (L2.upd H' t (.dK [])) D = some (.lst (nvs S.ready)) := by rw [upd_ne (ncT _ _ R.ready)]; exact R.ready
        have rkT : RkAt (L2.upd H' t (.dK [])) rk KK S.rank := R.rank.at (upd_ne (by obtain ⟨_, z, _⟩ := R.rank; exact ncT _ _ z))
        have smT : Same H H' := fun x o hx => R.but x o hx (nin x o hx)
        refine ⟨_, rfl, D, rfl, ⟨_, SqL.of rdT⟩, ?_⟩
        refine for_list (K := K) (a := D) (xs := nvs S.ready) (fun j σ H'' => ∃ u5, σ = [some (.ref d), some (.ref c), some (.ref D), some (.ref rk), some (nv i), u5, u6, some (.ref t)] ∧ But [t] (L2.upd H' t (.dK [])) H'' ∧ H'' t = some (comeD (S.ready.take j) (rkI S))) ⟨_, rfl, But.refl _ _, upd_same⟩ (fun j σ H'' _ ⟨_, _, b, _⟩ => SqL.of (b _ _ rdT (by simpa using ncT _ _ R.ready))) ?_ ?_
        · rintro j x σ H'' hj ⟨u5, rfl, b, hT⟩
          obtain ⟨y, hy, rfl⟩ := nvs_get hj
          have hyR := List.mem_of_getElem? hy
          obtain ⟨r, hr1, _⟩ := T2.rk y hyR
          obtain ⟨kv, z1, z2, z3⟩ := id rkT
          have nkt : rk ≠ t := by obtain ⟨_, z, _⟩ := R.rank; exact ncT _ _ z
          have rk2 : RkAt H'' rk KK S.rank := ⟨kv, b _ _ z1 (by simpa using nkt), z2, z3⟩
          have g : DGet H'' rk (nv y) (some (.int r)) := by have := rk2.get y; rwa [hr1] at this
          have hn : y ∉ S.ready.take j := fun h => by
            obtain ⟨q, hq, e⟩ := List.mem_iff_getElem.mp h
            rw [List.length_take] at hq
            rw [List.getElem_take] at e
            obtain ⟨hi', e2⟩ := List.getElem?_eq_some_iff.mp hy
            have := (List.getElem_inj T2.nd).mp (e.trans e2.symm)
            omega
          have hl : S.ready.length ≤ KK.length := nodup_le T2.nd T2.sub
          refine ⟨_, rfl, _, rfl, rk, _, rfl, g, _, rfl, _, rfl, t, _, rfl, DPut.k (k := kn y) hT (small_line (by rw [List.length_map, List.length_take]; omega)), _, rfl, b.up (by simp), ?_⟩
          have hv : valV ((S.ready.take j).map fun b => (kn b, V.int (rkI S b))) (kn y) = none := by rw [valV_keys (fun b => V.int (rkI S b)), if_neg hn]
          rw [upd_same, putK_new _ hv, List.take_add_one, hy]
          show _ = some (HO.dK (List.map (fun b => (kn b, V.int (rkI S b))) (List.take j S.ready ++ [y])))
          have er : rkI S y = r := by unfold rkI; rw [hr1]; rfl
          rw [List.map_append, ← er]
          rfl
        · rintro σ H'' ⟨u5, rfl, b, hT⟩
          rw [nvs_len, List.take_length] at hT
          refine ⟨_, rfl, kk H'' t (fun x o hx => b x o (sNew ht _ _ (smT x o hx)) (by simpa using ncT x o (smT x o hx))) (smT.free ht) hT⟩
end
end K52
set_option Elab.async false
set_option maxRecDepth 100000
namespace K52
open PySem L2
theorem stG_of {F : List Nat} {s N : Nat} (hN0 : 0 < N) (hN9 : N ≤ 9) : StG (keysL N) (stepsF F s N) := by
  have S := stepsF_ok F s N
  refine ⟨⟨keysL_nd N, fun b _ => ⟨S.nd b, fun e he => ?_⟩⟩, ?_⟩
  · obtain ⟨x, hx, rfl⟩ := List.mem_map.mp he
    obtain ⟨_, _, h, _⟩ := S.each b x hx
    rw [← h]
    exact pn_mem_keysL (Nat.mod_lt _ hN0) (Nat.mod_lt _ hN0)
  · have h1 := keysL_len hN0
    have h2 : N * N ≤ 9 * 9 := Nat.mul_le_mul hN9 hN9
    omega
abbrev StF (L : List Nat) (s n : Nat) (low : Int) : SF := stepsF (FF L s n low) s (NN L s n low)
abbrev KL (L : List Nat) (s n : Nat) (low : Int) : List Nat := keysL (NN L s n low)
def KR (L : List Nat) (s n : Nat) (low : Int) : KS := kahn (KL L s n low) (adjf (StF L s n low))
/-- all pairs are ranked -/
def Done (L : List Nat) (s n : Nat) (low : Int) : Prop := ¬ (KR L s n low).ready.length < (KL L s n low).length
instance (L : List Nat) (s n : Nat) (low : Int) : Decidable (Done L s n low) := inferInstanceAs (Decidable (¬ _))
def rowsU (u v : Nat) : List (Nat × Nat) := ((List.range v).filter fun x => decide (u ≠ x)).map fun x => (u, x)
def rowsN (N u : Nat) : List (Nat × Nat) := (List.range u).flatMap fun u => rowsU u N
/-- a list of rows -/
structure RowsAt (H : Hp) (ts : List Addr) (rows : List (Nat × Nat)) (rk : Nat → Nat → Int) : Prop where
  len : ts.length = rows.length
  each : ∀ (j : Nat) (t : Addr) (x : Nat × Nat), ts[j]? = some t → rows[j]? = some x → H t = some (.tup [nv x.1, nv x.2, .int (rk x.1 x.2)])
theorem RowsAt.same {H H' : Hp} {ts : List Addr} {rows : List (Nat × Nat)} {rk : Nat → Nat → Int} (r : RowsAt H ts rows rk) (e : But [] H H') : RowsAt H' ts rows rk :=
  ⟨r.len, fun j t x h1 h2 => e _ _ (r.each j t x h1 h2) (by simp)⟩
theorem RowsAt.nil (H : Hp) (rk : Nat → Nat → Int) : RowsAt H [] [] rk := ⟨rfl, fun j t x h => by simp at h⟩
theorem RowsAt.snoc {H H' : Hp} {ts : List Addr} {rows : List (Nat × Nat)} {rk : Nat → Nat → Int} {t : Addr} {x : Nat × Nat} (r : RowsAt H ts rows rk) (e : ∀ y ∈ ts, ∀ o, H y = some o → H' y = some o) (h : H' t = some (.tup [nv x.1, nv x.2, .int (rk x.1 x.2)])) : RowsAt H' (ts ++ [t]) (rows ++ [x]) rk := by
  refine ⟨by simp [r.len], fun j t' x' h1 h2 => ?_⟩
  by_cases hj : j < ts.length
  · rw [List.getElem?_append_left hj] at h1
    rw [List.getElem?_append_left (by rw [← r.len]; exact hj)] at h2
    exact e _ (List.mem_of_getElem? h1) _ (r.each j t' x' h1 h2)
  · rw [List.getElem?_append_right (by omega)] at h1
    rw [List.getElem?_append_right (by rw [← r.len]; omega)] at h2
    have e0 : j - ts.length = 0 := by
      have := (List.getElem?_eq_some_iff.mp h1).1
      simp at this
      omega
    rw [e0] at h1
    rw [← r.len, e0] at h2
    cases h1
    cases h2
    exact h
section
variable {P : Program} {w : World} {K : PySem.W.Frag} {mg : Str → Option Value} {base : Heap}
abbrev st_ranks : Stmt := top 32
theorem sc_ranks : FnScope ["one", "many", "steps", "rank", "rows", "u", "v"] ["one"] (defScope st_ranks) := ⟨rfl, rfl, rfl, by decide +kernel, rfl, by decide +kernel, by decide +kernel⟩
def rkP (L : List Nat) (s n : Nat) (low : Int) (u v : Nat) : Int := rkI (KR L s n low) (pn u v (NN L s n low))
def sp_ranks (K : PySem.W.Frag) : Sp := fun vs H Q _ => ∃ (a : Addr) (s n : Nat) (low : Int) (L : List Nat), vs = [.ref a] ∧ RuleAt K H a s low L ∧ Small L s n low ∧ (∀ x ∈ L, x < s) ∧
  (¬ Done L s n low → Pure H .non Q) ∧ (Done L s n low → ∀ (H' : Hp) (p r : Addr) (ts : List Addr), Same H H' → H p = none → H' p = some (.tup [.int (rkI (KR L s n low) 0), .ref r]) → H' r = some (.lst (ts.map V.ref)) → RowsAt H' ts (rowsN (NN L s n low) (NN L s n low)) (rkP L s n low) → Q (.ref p) H')
theorem has_ranks (F : FunC K mg "ranks" 32 ["one"]) (T : Bt mg) (h_nodes : Has P w K mg base 8 "nodes" ["one"] (sp_nodes K)) (h_pair_steps : Has P w K mg base 8 "pair_steps" ["one"] (sp_pair_steps K)) (h_ranked : Has P w K mg base 8 "ranked" ["steps"] sp_ranked) (h_pair_number : Has P w K mg base 8 "pair_number" ["u", "v", "many"] sp_pair_number) : Has P w K mg base 9 "ranks" ["one"] (sp_ranks K) := by
  obtain ⟨_, _, G_nodes, C_nodes⟩ := h_nodes
  obtain ⟨_, _, G_pair_steps, C_pair_steps⟩ := h_pair_steps
  obtain ⟨_, _, G_ranked, C_ranked⟩ := h_ranked
  obtain ⟨_, _, G_pair_number, C_pair_number⟩ := h_pair_number
  obtain ⟨f, fd, F, C⟩ := F
  refine ⟨f, fd, F.ok sc_ranks (fun vs H Q E h => ?_) (fun cdv A outer s H vs Q E hr h => ?_), C⟩
  · obtain ⟨a, s, n, low, L, rfl, _⟩ := h
    rfl
  · obtain ⟨a, s, n, low, L, rfl, rA, hS, hLs, k1, k2⟩ := h
    have hu := hu_of hr
    refine ⟨_, (pss_cons (ps_set (i := 1) sc_ranks.nd rfl (Or.inl rfl) (pe_call G_nodes hr rfl C_nodes.mg C_nodes.kp C_nodes.b .nil pass0 (pa_cons (pv 0) pa_nil)))
      (pss_cons (ps_set (i := 2) sc_ranks.nd rfl (Or.inl rfl) (pe_call G_pair_steps hr rfl C_pair_steps.mg C_pair_steps.kp C_pair_steps.b .nil pass0 (pa_cons (pv 0) pa_nil)))
      (pss_cons (ps_set (i := 3) sc_ranks.nd rfl (Or.inl rfl) (pe_call G_ranked hr rfl C_ranked.mg C_ranked.kp C_ranked.b .nil pass0 (pa_cons (pv 2) pa_nil)))
      (pss_cons (ps_if (pt_cmpR op_lt (pe_callB call_lenD (by rfl) T.len PySem.boot_len (pa_cons (pv 3) pa_nil)) (pe_callB call_lenD (by rfl) T.len PySem.boot_len (pa_cons (pv 2) pa_nil)) (nomark _))
        (pss_one (ps_ret pe_non))
        pss_nil)
      (pss_cons (ps_set (i := 4) sc_ranks.nd rfl (Or.inl rfl) (pe_lst pa_nil))
      (pss_cons (ps_for PassesOwn.never rfl (pi_range1 (by rfl) T.range (pa_cons (pv 1) pa_nil)) (pg_name (i := 5) sc_ranks.nd rfl (Or.inl rfl))
        (pss_one (ps_for PassesOwn.never rfl (pi_range1 (by rfl) T.range (pa_cons (pv 1) pa_nil)) (pg_name (i := 6) sc_ranks.nd rfl (Or.inl rfl))
          (pss_one (ps_if (pt_cmpR op_ne (pv 5) (pv 6) (nomark _))
            (pss_one (ps_expr (pe_bm PySem.F.plainAttrs_list PySem.F.slot_list_append PySem.F.type_list_append mt_append (pv 4) (pa_cons (pe_tup (pa_cons (pv 5) (pa_cons (pv 6) (pa_cons (pe_dget hu (pv 3) (pe_call G_pair_number hr rfl C_pair_number.mg C_pair_number.kp C_pair_number.b .nil pass0 (pa_cons (pv 5) (pa_cons (pv 6) (pa_cons (pv 1) pa_nil)))) (fun _ _ => rfl)) pa_nil)))) pa_nil))))
            pss_nil)))))
      (pss_one (ps_ret (pe_tup (pa_cons (pe_dget hu (pv 3) pe_int (fun _ _ => rfl)) (pa_cons (pv 4) pa_nil))))))))))), ?_⟩
    obtain ⟨e1, e2, hN9, hN0⟩ := small_frame hS
    have G : StG (KL L s n low) (StF L s n low) := stG_of hN0 hN9
    have T2 : Told (KL L s n low) (adjf (StF L s n low)) (KR L s n low) := kahn_told G.gr
    refine ⟨_, rfl, a, s, n, low, L, rfl, rA, hS, fun H1 s1 => ?_⟩
    refine ⟨_, rfl, a, s, n, low, L, rfl, rA.same s1, hS, hLs, fun H2 d ad tp s2 nd St => ?_⟩
    refine ⟨_, rfl, d, _, _, ad, tp, rfl, St, G, fun H3 c s3 nc hC => ?_⟩
    have hC : H3 c = some (comeD (KR L s n low).ready (rkI (KR L s n low))) := hC
    have sm3 : Same H H3 := s1.trans (s2.trans s3)
    refine ⟨_, rfl, c, _, rfl, hC, _, rfl, d, _, rfl, s3 _ _ St.top, _, _, rfl, rfl, _, rfl, ?_⟩
    rw [List.length_map, List.length_map]
    refine if2 (fun h => ?_) (fun h => ?_)
    · have h' : (KR L s n low).ready.length < (KL L s n low).length := by
        show (KR L s n low).ready.length < (keysL (NN L s n low)).length
        omega
      exact k1 (fun hd => hd h') H3 sm3
    · have hD : Done L s n low := fun z => h (by
        have z : (KR L s n low).ready.length < (keysL (NN L s n low)).length := z
        omega)
      have full := told_full G.gr T2 hD
      have k2 := k2 hD
      refine ⟨Nat.zero_le _, fun r hr => ?_⟩
      have ncr : c ≠ r := ne_of_none hC hr
      have hN9' : (frameP L s n low).2.2.length / s ≤ 9 := hN9
      have hrH : H r = none := sm3.free hr
      generalize hNN : (frameP L s n low).2.2.length / s = N at hN9 hN0 hN9' k2
      have bnd : ∀ u v, u ≤ N → v ≤ N → (rowsN N u ++ rowsU u v).length ≤ 1000 := fun u v hu hv => by
        have h1 : ∀ u v, v ≤ N → (rowsU u v).length ≤ N := fun u v hv => by
          unfold rowsU
          have := List.length_filter_le (fun x => decide (u ≠ x)) (List.range v)
          rw [List.length_range] at this
          rw [List.length_map]
          omega
        have h2 : ∀ u, (rowsN N u).length ≤ u * N := fun u => by
          induction u with
          | zero => simp [rowsN]
          | succ u ih =>
            have : rowsN N (u + 1) = rowsN N u ++ rowsU u N := by
              unfold rowsN
              rw [List.range_succ, List.flatMap_append]
              simp
            rw [this, List.length_append, Nat.succ_mul]
            have := h1 u N (Nat.le_refl _)
            omega
        have h3 := h2 u
        have h4 := h1 u v hv
        have h5 : u * N ≤ 9 * 9 := Nat.mul_le_mul (by omega) hN9
        rw [List.length_append]
        omega
      refine ⟨_, rfl, _, rfl, by omega, by omega, ?_⟩
      refine for_range0 (n := N) (fun u σ H' => ∃ u5 u6 ts, σ = [some (.ref a), some (nv N), some (.ref d), some (.ref c), some (.ref r), u5, u6] ∧ But [r] (L2.upd H3 r (.lst [])) H' ∧ H' r = some (.lst (ts.map V.ref)) ∧ RowsAt H' ts (rowsN N u) (rkP L s n low) ∧ r ∉ ts) ⟨none, none, [], by rw [← hNN]; rfl, But.refl _ _, upd_same, RowsAt.nil _ _, by simp⟩ ?_ ?_
      · rintro u σ H' hu' ⟨u5, u6, ts, rfl, b, hL, R, hrt⟩
        refine ⟨_, rfl, _, rfl, by omega, by omega, ?_⟩
        refine for_range0 (n := N) (fun v σ H' => ∃ u6 ts, σ = [some (.ref a), some (nv N), some (.ref d), some (.ref c), some (.ref r), some (nv u), u6] ∧ But [r] (L2.upd H3 r (.lst [])) H' ∧ H' r = some (.lst (ts.map V.ref)) ∧ RowsAt H' ts (rowsN N u ++ rowsU u v) (rkP L s n low) ∧ r ∉ ts) ⟨_, ts, rfl, b, hL, by simpa [rowsU] using R, hrt⟩ ?_ ?_
        · rintro v σ H' hv ⟨u6, ts, rfl, b, hL, R, hrt⟩
          refine ⟨_, rfl, _, rfl, rfl, _, rfl, ?_⟩
          refine ifN2 (fun h => ?_) (fun h => ?_)
          · have huv : u ≠ v := fun e => h (by rw [e])
            have hC' : H' c = some (comeD (KR L s n low).ready (rkI (KR L s n low))) := b _ _ (by rw [upd_ne ncr]; exact hC) (by simpa using ncr)
            have hm : pn u v N ∈ (KR L s n low).ready := full _ (by show pn u v N ∈ keysL (NN L s n low); rw [show NN L s n low = N from hNN]; exact pn_mem_keysL hu' hv)
            refine ⟨_, rfl, .inl ⟨rfl, _, SqL.of hL⟩, _, rfl, _, rfl, _, rfl, _, rfl, _, rfl, _, rfl, u, v, N, rfl, by omega, c, _, rfl, dget_int (.inl hC') hm, by show 3 ≤ sizeLine; decide, fun t ht => ?_⟩
            have nrt : r ≠ t := ne_of_none hL ht
            refine ⟨r, _, _, rfl, rfl, by rw [upd_ne nrt]; exact hL, small_line (by have := bnd u v (by omega) (by omega); rw [List.length_map, R.len]; omega), ?_⟩
            refine ⟨_, ts ++ [t], rfl, (b.same (sNew ht)).up (by simp), by rw [upd_same, List.map_append]; rfl, ?_, by simp [hrt, nrt]⟩
            have e : rowsU u (v + 1) = rowsU u v ++ [(u, v)] := by
              unfold rowsU
              rw [filt_pos (p := fun x => decide (u ≠ x)) (by simpa using huv), List.map_append]
              rfl
            rw [e, ← List.append_assoc]
            refine R.snoc (fun y hy o ho => ?_) ?_
            · rw [upd_ne (fun z => hrt (by rw [← z]; exact hy)), upd_ne (ne_of_none ho ht)]
              exact ho
            · rw [upd_ne (Ne.symm nrt), upd_same]
              show _ = some (HO.tup [nv u, nv v, V.int (rkI (KR L s n low) (pn u v (NN L s n low)))])
              rw [show NN L s n low = N from hNN]
          · have e : rowsU u (v + 1) = rowsU u v := by
              unfold rowsU
              rw [filt_neg (p := fun x => decide (u ≠ x)) (by simpa using nv_eq.mp h)]
            rw [← e] at R
            exact ⟨_, ts, rfl, b, hL, R, hrt⟩
        · rintro σ H' ⟨u6, ts, rfl, b, hL, R, hrt⟩
          have e : rowsN N (u + 1) = rowsN N u ++ rowsU u N := by
            unfold rowsN
            rw [List.range_succ, List.flatMap_append]
            simp
          rw [← e] at R
          exact ⟨_, _, ts, rfl, b, hL, R, hrt⟩
      · rintro σ H' ⟨u5, u6, ts, rfl, b, hL, R, hrt⟩
        have hC' : H' c = some (comeD (KR L s n low).ready (rkI (KR L s n low))) := b _ _ (by rw [upd_ne ncr]; exact hC) (by simpa using ncr)
        refine ⟨_, rfl, c, _, rfl, dget_int (k := 0) (.inl hC') (full 0 (zero_mem_keysL _)), _, rfl, by show 2 ≤ sizeLine; decide, fun p hp => ?_⟩
        have smF : Same H (L2.upd H' p (.tup [.int (rkI (KR L s n low) 0), .ref r])) := fun x o hx => by
          have h1 := b x o (by rw [upd_ne (ne_of_none hx hrH)]; exact sm3 _ _ hx) (by simpa using ne_of_none hx hrH)
          rw [upd_ne (ne_of_none h1 hp)]
          exact h1
        have npH : H p = none := by
          cases q : H p with
          | none => rfl
          | some o =>
            have h1 := b p o (by rw [upd_ne (ne_of_none q hrH)]; exact sm3 _ _ q) (by simpa using ne_of_none q hrH)
            rw [hp] at h1
            cases h1
        subst hNN
        refine k2 _ p r ts smF npH upd_same (by rw [upd_ne (ne_of_none hL hp)]; exact hL) ⟨R.len, fun j t x h1 h2 => ?_⟩
        have h3 := R.each j t x h1 h2
        rw [upd_ne (ne_of_none h3 hp)]
        exact h3

abbrev st_one_to_one : Stmt := top 33
theorem sc_one_to_one : FnScope ["one"] ["one"] (defScope st_one_to_one) := ⟨rfl, rfl, rfl, by decide +kernel, rfl, by decide +kernel, by decide +kernel⟩
def sp_one_to_one (K : PySem.W.Frag) : Sp := fun vs H Q _ => ∃ (a : Addr) (s n : Nat) (low : Int) (L : List Nat), vs = [.ref a] ∧ RuleAt K H a s low L ∧ Small L s n low ∧ (∀ x ∈ L, x < s) ∧ Pure H (.bl (decide (Done L s n low))) Q
theorem has_one_to_one (F : FunC K mg "one_to_one" 33 ["one"]) (h_ranks : Has P w K mg base 9 "ranks" ["one"] (sp_ranks K)) : Has P w K mg base 10 "one_to_one" ["one"] (sp_one_to_one K) := by
  obtain ⟨_, _, G_ranks, C_ranks⟩ := h_ranks
  obtain ⟨f, fd, F, C⟩ := F
  refine ⟨f, fd, F.ok sc_one_to_one (fun vs H Q E h => ?_) (fun cdv A outer s H vs Q E hr h => ?_), C⟩
  · obtain ⟨a, s, n, low, L, rfl, _⟩ := h
    rfl
  · obtain ⟨a, s, n, low, L, rfl, rA, hS, hLs, kk⟩ := h
    refine ⟨_, (pss_one (ps_ret (pe_cmpR op_notN (pe_call G_ranks hr rfl C_ranks.mg C_ranks.kp C_ranks.b .nil pass0 (pa_cons (pv 0) pa_nil)) pe_non (nomark _)))), ?_⟩
    refine ⟨_, rfl, a, s, n, low, L, rfl, rA, hS, hLs, fun hd H1 s1 => ?_, fun hd H1 p r ts s1 _ _ _ _ => ?_⟩
    · have := kk H1 s1
      rw [decide_eq_false hd] at this
      exact ⟨rfl, this⟩
    · have := kk H1 s1
      rw [decide_eq_true hd] at this
      exact ⟨rfl, this⟩
end
end K52
set_option Elab.async false
set_option maxRecDepth 100000
namespace K52
open PySem L2
theorem flat_nvs (l : List Nat) : (nvs l).all flatV = true := by
  rw [List.all_eq_true]
  intro x hx
  obtain ⟨n, _, rfl⟩ := List.mem_map.mp hx
  rfl
theorem eqV_nv (a b : Nat) : eqV (nv a) (nv b) = decide (a = b) := by
  show ((a : Int) == (b : Int)) = _
  by_cases h : a = b
  · subst h; simp
  · rw [decide_eq_false h]
    exact beq_eq_false_iff_ne.mpr (fun e => h (by omega))
theorem inV_nv (x : Nat) (l : List Nat) : inV (nv x) (nvs l) = decide (x ∈ l) := by
  unfold inV
  induction l with
  | nil => rfl
  | cons a l ih =>
    show ((nv a :: nvs l).any fun y => eqV y (nv x)) = _
    rw [List.any_cons, ih, eqV_nv]
    by_cases h : a = x
    · simp [h]
    · have : x ≠ a := fun e => h e.symm
      simp [h, this]
theorem dget_inn {H : Hp} {a : Addr} {f : SF} {b e : Nat} {tp : Nat → Nat → Addr} (h : H a = some (.dK ((f b).map fun e => (kn e.1, V.ref (tp b e.1))))) : DGet H a (nv e) (if e ∈ adjf f b then some (.ref (tp b e)) else none) := by
  rw [inner_eq (fun y => V.ref (tp b y))] at h
  exact dget_keys (g := fun y => V.ref (tp b y)) (.inl h)
theorem steps_get {H : Hp} {d : Addr} {KK : List Nat} {f : SF} {ad : Nat → Addr} {tp : Nat → Nat → Addr} {b : Nat} (S : StepsAt H d KK f ad tp) (hb : b ∈ KK) : DGet H d (nv b) (some (.ref (ad b))) := by
  have := dget_keys (k := b) (g := fun b => V.ref (ad b)) (.inl S.top)
  rwa [if_pos hb] at this
section
variable {P : Program} {w : World} {K : PySem.W.Frag} {mg : Str → Option Value} {base : Heap}
abbrev st_stepping_to : Stmt := top 34
theorem sc_stepping_to : FnScope ["steps", "some", "end", "begin"] ["steps", "some", "end"] (defScope st_stepping_to) := ⟨rfl, rfl, rfl, by decide +kernel, rfl, by decide +kernel, by decide +kernel⟩
def sp_stepping_to (K : PySem.W.Frag) : Sp := fun vs H Q _ => ∃ (d sm : Addr) (KK : List Nat) (f : SF) (ad : Nat → Addr) (tp : Nat → Nat → Addr) (so : List Nat) (e : Nat), vs = [.ref d, .ref sm, nv e] ∧ StepsAt H d KK f ad tp ∧ SqL K H sm (nvs so) ∧ (∀ x ∈ so, x ∈ KK) ∧ so.length ≤ 1000 ∧
  (∃ b ∈ so, e ∈ adjf f b) ∧ Pure H (nv (stepTo so (adjf f) e)) Q
theorem has_stepping_to (F : FunC K mg "stepping_to" 34 ["steps", "some", "end"]) : Has P w K mg base 1 "stepping_to" ["steps", "some", "end"] (sp_stepping_to K) := by
  obtain ⟨f, fd, F, C⟩ := F
  refine ⟨f, fd, F.ok sc_stepping_to (fun vs H Q E h => ?_) (fun cdv A outer s H vs Q E hr h => ?_), C⟩
  · obtain ⟨d, sm, KK, f, ad, tp, so, e, rfl, _⟩ := h
    rfl
  · obtain ⟨d, sm, KK, f, ad, tp, so, e, rfl, S, hso, hsub, hlen, ⟨b0, hb0, he0⟩, kk⟩ := h
    have hu := hu_of hr
    refine ⟨_, (pss_one (ps_ret (pe_ix ix_list (pe_lc (own := [("begin", 3)]) (g := gName 3) (by rfl) sc_stepping_to.nd (pi_list (pv 1)) (blkOk_by (own := [("begin", 3)]) (N := ["steps", "some", "end", "begin"]) (sc := defScope st_stepping_to) (by decide +kernel)) (fun _ _ _ _ _ => pg_name (i := 3) sc_stepping_to.nd rfl (Or.inl rfl)) (fun _ _ _ _ _ => pts_one (pt_cmp (pc_din hu (pv 2) (pe_dget hu (pv 0) (pv 3) (fun _ _ => rfl))))) (fun _ _ _ _ _ => (pv 3))) pe_int (fun _ _ => rfl)))), ?_⟩
    refine ⟨_, rfl, sm, rfl, ⟨_, hso⟩, fun D hD => ?_⟩
    refine lc_list (K := K) (a := sm) (xs := nvs so) (fun i H' => Same H H' ∧ H' D = some (.lst (nvs ((so.take i).filter fun b => decide (e ∈ adjf f b))))) ⟨sNew hD, upd_same⟩ (fun i H' _ ⟨s1, _⟩ => s1.seq hso) ?_ ?_
    · rintro i x H' hi ⟨s1, hL⟩
      obtain ⟨b, hb, rfl⟩ := nvs_get hi
      have hbK := hsub b (List.mem_of_getElem? hb)
      have S1 := S.same s1
      have eT : so.take (i + 1) = so.take i ++ [b] := by rw [List.take_add_one, hb]; rfl
      refine ⟨rfl, _, rfl, _, rfl, _, rfl, d, _, rfl, steps_get S1 hbK, ad b, _, rfl, dget_inn (S1.inn b hbK), _, rfl, ?_⟩
      by_cases he : e ∈ adjf f b
      · rw [if_pos he]
        refine iteT ?_
        refine ⟨_, rfl, _, hL, small_line ?_, sUp s1 hD, ?_⟩
        · have := List.length_filter_le (fun b => decide (e ∈ adjf f b)) (so.take i)
          rw [List.length_take] at this
          rw [nvs_len]
          omega
        · rw [upd_same, eT, List.filter_append, List.filter_cons_of_pos (by simpa using he), List.filter_nil]
          show _ = some (HO.lst (List.map nv (_ ++ [b])))
          rw [List.map_append]
          rfl
      · rw [if_neg he]
        refine iteF ?_
        refine ⟨s1, ?_⟩
        rw [hL, eT, List.filter_append, List.filter_cons_of_neg (by simpa using he), List.filter_nil, List.append_nil]
    · rintro H' ⟨s1, hL⟩
      rw [nvs_len, List.take_length] at hL
      have hm : b0 ∈ so.filter fun b => decide (e ∈ adjf f b) := List.mem_filter.mpr ⟨hb0, by simpa using he0⟩
      have hk := kk H' s1
      unfold stepTo at hk
      cases q : so.filter fun b => decide (e ∈ adjf f b) with
      | nil => rw [q] at hm; cases hm
      | cons y r =>
        rw [q] at hk hL
        exact ⟨D, _, _, nv y, rfl, rfl, SqL.of hL, atI_nat (j := 0) rfl, hk⟩

abbrev st_round_about : Stmt := top 35
theorem sc_round_about : FnScope ["steps", "some", "way", "begin"] ["steps", "some"] (defScope st_round_about) := ⟨rfl, rfl, rfl, by decide +kernel, rfl, by decide +kernel, by decide +kernel⟩
def sp_round_about (K : PySem.W.Frag) : Sp := fun vs H Q _ => ∃ (d sm : Addr) (KK : List Nat) (f : SF) (ad : Nat → Addr) (tp : Nat → Nat → Addr) (so : List Nat), vs = [.ref d, .ref sm] ∧ StepsAt H d KK f ad tp ∧ SqL K H sm (nvs so) ∧ (∀ x ∈ so, x ∈ KK) ∧ so.length ≤ 1000 ∧
  Back so (adjf f) ∧ NewL H (nvs (roundAbout so (adjf f))) Q
theorem has_round_about (F : FunC K mg "round_about" 35 ["steps", "some"]) (T : Bt mg) (h_stepping_to : Has P w K mg base 1 "stepping_to" ["steps", "some", "end"] (sp_stepping_to K)) : Has P w K mg base 2 "round_about" ["steps", "some"] (sp_round_about K) := by
  obtain ⟨_, _, G_stepping_to, C_stepping_to⟩ := h_stepping_to
  obtain ⟨f, fd, F, C⟩ := F
  refine ⟨f, fd, F.ok sc_round_about (fun vs H Q E h => ?_) (fun cdv A outer s H vs Q E hr h => ?_), C⟩
  · obtain ⟨d, sm, KK, f, ad, tp, so, rfl, _⟩ := h
    rfl
  · obtain ⟨d, sm, KK, f, ad, tp, so, rfl, S, hso, hsub, hlen, B, kk⟩ := h
    refine ⟨_, (pss_cons (ps_set (i := 2) sc_round_about.nd rfl (Or.inl rfl) (pe_lst (pa_cons (pe_ix ix_list (pv 1) pe_int (fun _ _ => rfl)) pa_nil)))
      (pss_cons (ps_set (i := 3) sc_round_about.nd rfl (Or.inl rfl) (pe_call G_stepping_to hr rfl C_stepping_to.mg C_stepping_to.kp C_stepping_to.b .nil pass0 (pa_cons (pv 0) (pa_cons (pv 1) (pa_cons (pe_ix ix_list (pv 2) pe_int (fun _ _ => rfl)) pa_nil)))))
      (pss_cons (ps_while PassesOwn.never (pt_cmpR op_notIn_seq (pv 3) (pv 2) (by rfl))
        (pss_cons (ps_expr (pe_bm PySem.F.plainAttrs_list PySem.F.slot_list_append PySem.F.type_list_append mt_append (pv 2) (pa_cons (pv 3) pa_nil)))
        (pss_one (ps_set (i := 3) sc_round_about.nd rfl (Or.inl rfl) (pe_call G_stepping_to hr rfl C_stepping_to.mg C_stepping_to.kp C_stepping_to.b .nil pass0 (pa_cons (pv 0) (pa_cons (pv 1) (pa_cons (pv 3) pa_nil))))))))
      (pss_one (ps_ret (pe_listRev rfl (by rfl) T.list (by rfl) T.reversed (pe_slice sl_list (pv 2) (po_some (pe_bm PySem.F.plainAttrs_list PySem.F.slot_list_index PySem.F.type_list_index mt_index (pv 2) (pa_cons (pv 3) pa_nil))) po_none))))))), ?_⟩
    have hfirst : so[0]? = some (so.headD 0) := by
      cases e : so with
      | nil => exact absurd e B.ne
      | cons y r => rfl
    refine ⟨_, rfl, sm, _, _, _, rfl, rfl, hso, atI_nat (j := 0) (nvs_at hfirst), by show 1 ≤ sizeLine; decide, fun p hp => ?_⟩
    have s1 : Same H (L2.upd H p (.lst [nv (so.headD 0)])) := sNew hp
    have hm0 : so.headD 0 ∈ so := List.mem_of_getElem? hfirst
    refine ⟨_, rfl, _, rfl, _, rfl, p, _, _, nv (so.headD 0), rfl, rfl, SqL.of upd_same, atI_nat (j := 0) rfl, d, sm, KK, f, ad, tp, so, so.headD 0, rfl, S.same s1, s1.seq hso, hsub, hlen, B.all _ hm0, fun H1 s2 => ?_⟩
    refine ⟨fun m σ H' => ∃ way b, m = so.length + 1 - way.length ∧ σ = [some (.ref d), some (.ref sm), some (.ref p), some (nv b)] ∧ Same H H' ∧ H' p = some (.lst (nvs way)) ∧ RInv so (adjf f) way b ∧ ∃ n, roundLoop (stepTo so (adjf f)) n way b = roundEnd so (adjf f) ∧ so.length < n + way.length + 1, ⟨_, [so.headD 0], stepTo so (adjf f) (so.headD 0), rfl, rfl, s1.trans s2, s2 _ _ upd_same, rinv_start B, so.length, rfl, by rw [List.length_singleton]; omega⟩, ?_⟩
    rintro m σ H' ⟨way, b, rfl, rfl, s3, hW, I, n, eR, hn⟩
    have hwl : way.length ≤ so.length := nodup_le I.nd I.sub
    refine ⟨_, rfl, _, rfl, p, _, rfl, .inl (SqL.of hW), rfl, flat_nvs way, _, rfl, ?_⟩
    show if (!inV (nv b) (nvs way)) = true then _ else _
    rw [inV_nv]
    refine ifN2 (fun hb => ?_) (fun hb => ?_)
    · have eR2 : ∃ n', roundLoop (stepTo so (adjf f)) n' (way ++ [b]) (stepTo so (adjf f) b) = roundEnd so (adjf f) ∧ so.length < n' + (way ++ [b]).length + 1 := by
        cases n with
        | zero =>
          have := nodup_le (rinv_step B I hb).nd (rinv_step B I hb).sub
          rw [List.length_append, List.length_singleton] at this
          omega
        | succ n =>
          rw [roundLoop, if_neg hb] at eR
          exact ⟨n, eR, by rw [List.length_append, List.length_singleton]; omega⟩
      have I2 := rinv_step B I hb
      have hl2 := nodup_le I2.nd I2.sub
      rw [List.length_append, List.length_singleton] at hl2
      refine ⟨fun σ' H'' => σ' = [some (.ref d), some (.ref sm), some (.ref p), some (nv (stepTo so (adjf f) b))] ∧ Same H H'' ∧ H'' p = some (.lst (nvs (way ++ [b]))), ?_, ?_⟩
      · rintro σ' H'' ⟨rfl, s4, hW2⟩
        exact ⟨_, by rw [List.length_append, List.length_singleton]; omega, way ++ [b], _, rfl, rfl, s4, hW2, I2, eR2⟩
      · refine ⟨_, rfl, .inl ⟨rfl, _, SqL.of hW⟩, _, rfl, p, _, _, rfl, rfl, hW, small_line (by rw [nvs_len]; omega), ?_⟩
        have s4 := sUp (o := .lst (nvs way ++ [nv b])) s3 hp
        refine ⟨_, rfl, _, rfl, _, rfl, d, sm, KK, f, ad, tp, so, b, rfl, S.same s4, s4.seq hso, hsub, hlen, B.all _ I.bs, fun H3 s5 => ?_⟩
        refine ⟨rfl, s4.trans s5, s5 _ _ ?_⟩
        rw [upd_same]
        show _ = some (HO.lst (List.map nv (way ++ [b])))
        rw [List.map_append]
        rfl
    · have eE : roundEnd so (adjf f) = (way, b) := by
        rw [← eR]
        cases n with
        | zero => rfl
        | succ n => rw [roundLoop, if_pos hb]
      have hix : way.idxOf b < way.length := List.idxOf_lt_length_of_mem hb
      have hgx : way[way.idxOf b]? = some b := by rw [List.getElem?_eq_getElem hix, List.getElem_idxOf hix]
      refine ⟨_, rfl, _, rfl, .inl ⟨rfl, _, SqL.of hW⟩, _, rfl, p, _, _, way.idxOf b, nv b, rfl, rfl, SqL.of hW, rfl, flat_nvs way, nvs_at hgx, by rw [eqV_nv]; simp, fun m' z' hm' hz' => ?_, ?_⟩
      · obtain ⟨y, hy, rfl⟩ := nvs_get hz'
        rw [eqV_nv]
        refine decide_eq_false fun e => ?_
        subst e
        obtain ⟨h1, h2⟩ := List.getElem?_eq_some_iff.mp hy
        have := List.not_of_lt_findIdx (p := (· == y)) (xs := way) (i := m') hm'
        simp [h2] at this
      · refine ⟨_, rfl, p, _, rfl, SqL.of hW, fun q hq => ?_⟩
        refine ⟨q, _, rfl, SqL.of upd_same, fun r hr => ?_⟩
        have hq1 : H' q = none := hq
        have hr1 : H' r = none := by
          have nrq : r ≠ q := fun e => by rw [e, upd_same] at hr; cases hr
          rw [upd_ne nrq] at hr
          exact hr
        refine kk _ r (sUp (sUp s3 (s3.free hq)) (s3.free hr1)) (s3.free hr1) ?_
        rw [upd_same]
        congr 2
        unfold cutV roundAbout
        rw [eE, HT.sIx_nat, HT.sIx_none, nvs_len]
        have e1 : min (way.idxOf b) way.length = way.idxOf b := by omega
        rw [e1, List.take_of_length_le (by rw [List.length_drop, nvs_len]; omega), ← List.map_drop, ← List.map_reverse]
end
end K52
set_option Elab.async false
set_option maxRecDepth 100000
namespace K52
open PySem L2
def someL (L : List Nat) (s n : Nat) (low : Int) : List Nat := (KL L s n low).filter fun b => decide (b ∉ (KR L s n low).ready)
def wayL (L : List Nat) (s n : Nat) (low : Int) : List Nat := roundAbout (someL L s n low) (adjf (StF L s n low))
def TW1 (L : List Nat) (s n : Nat) (low : Int) : List Nat := tw1 s ((frameP L s n low).2.1 - 1) (StF L s n low) (wayL L s n low) (wayL L s n low).length
def TW2 (L : List Nat) (s n : Nat) (low : Int) : List Nat := tw2 s ((frameP L s n low).2.1 - 1) (StF L s n low) (wayL L s n low) (wayL L s n low).length
theorem nvs_app (a b : List Nat) : nvs (a ++ b) = nvs a ++ nvs b := List.map_append
theorem some_nil {L : List Nat} {s n : Nat} {low : Int} (hS : Small L s n low) : someL L s n low = [] ↔ Done L s n low := by
  obtain ⟨_, _, hN9, hN0⟩ := small_frame hS
  have G : StG (KL L s n low) (StF L s n low) := stG_of hN0 hN9
  have T2 : Told (KL L s n low) (adjf (StF L s n low)) (KR L s n low) := kahn_told G.gr
  constructor
  · intro h z
    have all : ∀ x ∈ KL L s n low, x ∈ (KR L s n low).ready := fun x hx => by
      apply Classical.byContradiction
      intro hn
      have : x ∈ someL L s n low := List.mem_filter.mpr ⟨hx, by simpa using hn⟩
      rw [h] at this
      cases this
    have := nodup_le G.gr.nd all
    omega
  · intro h
    have full := told_full G.gr T2 h
    unfold someL
    apply List.filter_eq_nil_iff.mpr
    intro x hx
    simpa using full x hx
theorem some_back {L : List Nat} {s n : Nat} {low : Int} (hS : Small L s n low) (h : ¬ Done L s n low) : Back (someL L s n low) (adjf (StF L s n low)) := by
  obtain ⟨_, _, hN9, hN0⟩ := small_frame hS
  have G : StG (KL L s n low) (StF L s n low) := stG_of hN0 hN9
  have T2 : Told (KL L s n low) (adjf (StF L s n low)) (KR L s n low) := kahn_told G.gr
  refine ⟨fun e => h ((some_nil hS).mp e), fun x hx => ?_⟩
  obtain ⟨h1, h2⟩ := List.mem_filter.mp hx
  obtain ⟨b, hb, h3, h4⟩ := T2.left x h1 (by simpa using h2)
  exact ⟨b, List.mem_filter.mpr ⟨hb, by simpa using h3⟩, h4⟩
theorem tw1_succ (s long : Nat) (f : SF) (way : List Nat) (k : Nat) : tw1 s long f way (k + 1) = tw1 s long f way k ++ (fedL s long (way.getD k 0) (lookK f way k).1 ++ [(lookK f way k).1 % s]) := by
  unfold tw1
  rw [List.range_succ, List.flatMap_append, List.flatMap_cons, List.flatMap_nil, List.append_nil]
theorem tw2_succ (s long : Nat) (f : SF) (way : List Nat) (k : Nat) : tw2 s long f way (k + 1) = tw2 s long f way k ++ (fedL s long (way.getD k 0) (lookK f way k).1 ++ [(lookK f way k).2 % s]) := by
  unfold tw2
  rw [List.range_succ, List.flatMap_append, List.flatMap_cons, List.flatMap_nil, List.append_nil]
theorem fedL_len (s long b l : Nat) : (fedL s long b l).length ≤ long := by
  unfold fedL
  split
  · rw [wordN_len]; exact Nat.le_refl _
  · exact Nat.zero_le _
theorem tw1_le (s long : Nat) (f : SF) (way : List Nat) : ∀ k, (tw1 s long f way k).length ≤ k * (long + 1)
  | 0 => by simp [tw1]
  | k + 1 => by
    have := tw1_le s long f way k
    have := fedL_len s long (way.getD k 0) (lookK f way k).1
    rw [tw1_succ, List.length_append, List.length_append, List.length_singleton, Nat.succ_mul]
    omega
theorem tw2_le (s long : Nat) (f : SF) (way : List Nat) : ∀ k, (tw2 s long f way k).length ≤ k * (long + 1)
  | 0 => by simp [tw2]
  | k + 1 => by
    have := tw2_le s long f way k
    have := fedL_len s long (way.getD k 0) (lookK f way k).1
    rw [tw2_succ, List.length_append, List.length_append, List.length_singleton, Nat.succ_mul]
    omega
section
variable {P : Program} {w : World} {K : PySem.W.Frag} {mg : Str → Option Value} {base : Heap}
abbrev st_twins : Stmt := top 36
theorem sc_twins : FnScope ["one", "steps", "rank", "some", "signs", "long", "way", "first", "second", "k", "left", "right", "fed", "begin"] ["one"] (defScope st_twins) := ⟨rfl, rfl, rfl, by decide +kernel, rfl, by decide +kernel, by decide +kernel⟩
def sp_twins (K : PySem.W.Frag) : Sp := fun vs H Q _ => ∃ (a : Addr) (s n : Nat) (low : Int) (L : List Nat), vs = [.ref a] ∧ RuleAt K H a s low L ∧ Small L s n low ∧ (∀ x ∈ L, x < s) ∧
  (Done L s n low → Pure H .non Q) ∧ (¬ Done L s n low → ∀ (H' : Hp) (p r1 r2 : Addr), Same H H' → H p = none → H r1 = none → H' p = some (.tup [.ref r1, .ref r2]) → H' r1 = some (.lst (nvs (TW1 L s n low))) → H' r2 = some (.lst (nvs (TW2 L s n low))) → Q (.ref p) H')
theorem has_twins (F : FunC K mg "twins" 36 ["one"]) (T : Bt mg) (h_pair_steps : Has P w K mg base 8 "pair_steps" ["one"] (sp_pair_steps K)) (h_ranked : Has P w K mg base 8 "ranked" ["steps"] sp_ranked) (h_places : Has P w K mg base 8 "places" ["one"] (sp_places K)) (h_frame : Has P w K mg base 8 "frame" ["one"] (sp_frame K)) (h_round_about : Has P w K mg base 8 "round_about" ["steps", "some"] (sp_round_about K)) (h_word_of : Has P w K mg base 8 "word_of" ["number", "signs", "many"] sp_word_of) : Has P w K mg base 9 "twins" ["one"] (sp_twins K) := by
  obtain ⟨_, _, G_pair_steps, C_pair_steps⟩ := h_pair_steps
  obtain ⟨_, _, G_ranked, C_ranked⟩ := h_ranked
  obtain ⟨_, _, G_places, C_places⟩ := h_places
  obtain ⟨_, _, G_frame, C_frame⟩ := h_frame
  obtain ⟨_, _, G_round_about, C_round_about⟩ := h_round_about
  obtain ⟨_, _, G_word_of, C_word_of⟩ := h_word_of
  obtain ⟨f, fd, F, C⟩ := F
  refine ⟨f, fd, F.ok sc_twins (fun vs H Q E h => ?_) (fun cdv A outer s H vs Q E hr h => ?_), C⟩
  · obtain ⟨a, s, n, low, L, rfl, _⟩ := h
    rfl
  · obtain ⟨a, s, n, low, L, rfl, rA, hS, hLs, k1, k2⟩ := h
    have hu := hu_of hr
    refine ⟨_, (pss_cons (ps_set (i := 1) sc_twins.nd rfl (Or.inl rfl) (pe_call G_pair_steps hr rfl C_pair_steps.mg C_pair_steps.kp C_pair_steps.b .nil pass0 (pa_cons (pv 0) pa_nil)))
      (pss_cons (ps_set (i := 2) sc_twins.nd rfl (Or.inr rfl) (pe_call G_ranked hr rfl C_ranked.mg C_ranked.kp C_ranked.b .nil pass0 (pa_cons (pv 1) pa_nil)))
      (pss_cons (ps_lock (ps_setLc (i := 3) (own := [("begin", 13)]) (g := gName 13) (by rfl) sc_twins.nd rfl rfl (sw_true rfl rfl rfl (by decide +kernel)) (pi_keys (pv 1)) (blkOk_by (own := [("begin", 13)]) (N := ["one", "steps", "rank", "some", "signs", "long", "way", "first", "second", "k", "left", "right", "fed", "begin"]) (sc := defScope st_twins) (by decide +kernel)) (fun _ _ _ _ _ => pg_name (i := 13) sc_twins.nd rfl (Or.inl rfl)) (fun _ _ _ _ _ => pts_one (pt_cmp (pc_dnotin hu (pv 13) (pv 2)))) (fun _ _ _ _ _ => (pv 13))))
      (pss_cons (ps_if (pt_cmpR (op_eqD hr.units) (pv 3) (pe_lst pa_nil) (nomark _))
        (pss_one (ps_ret pe_non))
        pss_nil)
      (pss_cons (ps_set (i := 4) sc_twins.nd rfl (Or.inl rfl) (pe_ix ix_tup (pv 0) pe_int (fun _ _ => rfl)))
      (pss_cons (ps_set (i := 5) sc_twins.nd rfl (Or.inl rfl) (pe_op op_sub (pe_call G_places hr rfl C_places.mg C_places.kp C_places.b .nil pass0 (pa_cons (pe_call G_frame hr rfl C_frame.mg C_frame.kp C_frame.b .nil pass0 (pa_cons (pv 0) pa_nil)) pa_nil)) pe_int))
      (pss_cons (ps_set (i := 6) sc_twins.nd rfl (Or.inl rfl) (pe_call G_round_about hr rfl C_round_about.mg C_round_about.kp C_round_about.b .nil pass0 (pa_cons (pv 1) (pa_cons (pv 3) pa_nil))))
      (pss_cons (ps_set (i := 7) sc_twins.nd rfl (Or.inl rfl) (pe_lst pa_nil))
      (pss_cons (ps_set (i := 8) sc_twins.nd rfl (Or.inl rfl) (pe_lst pa_nil))
      (pss_cons (ps_for PassesOwn.never rfl (pi_range1 (by rfl) T.range (pa_cons (pe_callB call_len_seq (by rfl) T.len PySem.boot_len (pa_cons (pv 6) pa_nil)) pa_nil)) (pg_name (i := 9) sc_twins.nd rfl (Or.inl rfl))
        (pss_cons (ps_asg (pe_dget hu (pe_dget hu (pv 1) (pe_ix ix_list (pv 6) (pv 9) (fun _ _ => rfl)) (fun _ _ => rfl)) (pe_ix ix_list (pv 6) (pe_op op_mod (pe_op op_add (pv 9) pe_int) (pe_callB call_len_seq (by rfl) T.len PySem.boot_len (pa_cons (pv 6) pa_nil))) (fun _ _ => rfl)) (fun _ _ => rfl)) (pg_tup (by rfl) (pgs_cons (pg_name (i := 10) sc_twins.nd rfl (Or.inl rfl)) (pgs_cons (pg_name (i := 11) sc_twins.nd rfl (Or.inl rfl)) pgs_nil))))
        (pss_cons (ps_if (pt_cmpR op_eq (pe_ix ix_list (pv 6) (pv 9) (fun _ _ => rfl)) pe_int (nomark _))
          (pss_cons (ps_set (i := 12) sc_twins.nd rfl (Or.inl rfl) (pe_call G_word_of hr rfl C_word_of.mg C_word_of.kp C_word_of.b .nil pass0 (pa_cons (pe_op op_fdiv (pv 10) (pv 4)) (pa_cons (pv 4) (pa_cons (pv 5) pa_nil)))))
          (pss_cons (ps_set (i := 7) sc_twins.nd rfl (Or.inl rfl) (pe_op op_cat (pv 7) (pv 12)))
          (pss_one (ps_set (i := 8) sc_twins.nd rfl (Or.inl rfl) (pe_op op_cat (pv 8) (pv 12))))))
          pss_nil)
        (pss_cons (ps_expr (pe_bm PySem.F.plainAttrs_list PySem.F.slot_list_append PySem.F.type_list_append mt_append (pv 7) (pa_cons (pe_op op_mod (pv 10) (pv 4)) pa_nil)))
        (pss_one (ps_expr (pe_bm PySem.F.plainAttrs_list PySem.F.slot_list_append PySem.F.type_list_append mt_append (pv 8) (pa_cons (pe_op op_mod (pv 11) (pv 4)) pa_nil))))))))
      (pss_one (ps_ret (pe_tup (pa_cons (pv 7) (pa_cons (pv 8) pa_nil))))))))))))))), ?_⟩
    obtain ⟨e1, e2, hN9, hN0⟩ := small_frame hS
    have G : StG (KL L s n low) (StF L s n low) := stG_of hN0 hN9
    have hs2 := hS.2.1
    have hs9 := hS.2.2.1
    have hge := frameP_ge (L := L) (s := s) (n := n) (low := low)
    have hp9 : (frameP L s n low).2.1 ≤ 9 := by
      have h9 := hS.2.2.2.2.2
      have h1 : 2 ^ ((frameP L s n low).2.1 - 1) ≤ s ^ ((frameP L s n low).2.1 - 1) := Nat.pow_le_pow_left hs2 _
      have h2 : 2 ^ ((frameP L s n low).2.1 - 1) ≤ 2 ^ 8 := by omega
      have := (Nat.pow_le_pow_iff_right (a := 2) (by omega)).mp h2
      omega
    refine ⟨_, rfl, a, s, n, low, L, rfl, rA, hS, hLs, fun H1 d ad tp s1 nd St => ?_⟩
    refine ⟨_, rfl, d, _, _, ad, tp, rfl, St, G, fun H2 c s2 nc hC => ?_⟩
    have hC : H2 c = some (comeD (KR L s n low).ready (rkI (KR L s n low))) := hC
    have St2 := St.same s2
    have ndc : d ≠ c := ne_of_none St.top nc
    refine ⟨d, _, St2.top, trivial, fun od => ?_⟩
    refine ⟨_, rfl, d, od, rfl, .inl ⟨_, upd_same, fun D hD => ?_⟩⟩
    refine lc_it walk_keys (fun i H' => Same (L2.upd H2 d (.frz od (.dK ((KL L s n low).map fun b => (kn b, V.ref (ad b)))))) H' ∧ H' D = some (.lst (nvs (((KL L s n low).take i).filter fun b => decide (b ∉ (KR L s n low).ready))))) ⟨sNew hD, upd_same⟩ (fun i H' _ ⟨sm, _⟩ => sm _ _ upd_same) ?_ ?_
    · rintro i x H' H'' hi ⟨sm, hL⟩ ⟨rfl, hx⟩
      obtain ⟨b, hb, rfl⟩ := keys_at hx
      have hC' : H'' c = some (comeD (KR L s n low).ready (rkI (KR L s n low))) := sm _ _ (by rw [upd_ne (Ne.symm ndc)]; exact hC)
      have eT : (KL L s n low).take (i + 1) = (KL L s n low).take i ++ [b] := by rw [List.take_add_one, hb]; rfl
      refine ⟨rfl, _, rfl, _, rfl, c, _, rfl, dget_keys (k := b) (g := fun b => V.int (rkI (KR L s n low) b)) (.inl hC'), _, rfl, ?_⟩
      by_cases hm : b ∈ (KR L s n low).ready
      · rw [if_pos hm]
        refine iteF ?_
        refine ⟨sm, ?_⟩
        rw [hL, eT, List.filter_append, List.filter_cons_of_neg (by simpa using hm), List.filter_nil, List.append_nil]
      · rw [if_neg hm]
        refine iteT ?_
        have hk := G.len
        refine ⟨_, rfl, _, hL, small_line ?_, sUp sm hD, ?_⟩
        · have := List.length_filter_le (fun b => decide (b ∉ (KR L s n low).ready)) ((KL L s n low).take i)
          rw [List.length_take] at this
          rw [nvs_len]
          omega
        · rw [upd_same, eT, List.filter_append, List.filter_cons_of_pos (by simpa using hm), List.filter_nil]
          show _ = some (HO.lst (List.map nv (_ ++ [b])))
          rw [List.map_append]
          rfl
    · rintro H3 ⟨sm, hL⟩
      obtain ⟨sm2, hd2⟩ := lock_back St2.top sm
      rw [List.length_map, List.take_length] at hL
      have hL : H3 D = some (.lst (nvs (someL L s n low))) := hL
      refine ⟨hd2, ?_⟩
      have nDd : D ≠ d := fun e => by rw [e, upd_same] at hD; cases hD
      have hL2 : (L2.upd H3 d (.dK ((KL L s n low).map fun b => (kn b, V.ref (ad b))))) D = some (.lst (nvs (someL L s n low))) := by rw [upd_ne nDd]; exact hL
      generalize L2.upd H3 d (.dK ((KL L s n low).map fun b => (kn b, V.ref (ad b)))) = H4 at sm2 hL2
      have s4 : Same H H4 := s1.trans (s2.trans sm2)
      have St4 := St2.same sm2
      refine ⟨_, rfl, Nat.zero_le _, fun q hq => ?_⟩
      have s5 := s4.trans (sNew (o := .lst []) hq)
      have nDq : D ≠ q := ne_of_none hL2 hq
      have hL5 : (L2.upd H4 q (.lst [])) D = some (.lst (nvs (someL L s n low))) := by rw [upd_ne nDq]; exact hL2
      have em : nvs (someL L s n low) = ((someL L s n low).map fun (b : Nat) => (b : Int)).map V.int := by rw [List.map_map]; rfl
      refine ⟨_, _, dp_list (l := (someL L s n low).map fun (b : Nat) => (b : Int)) (by rw [← em]; exact SqL.of hL5), dp_list (l := []) (SqL.of upd_same), shaped_list _, shaped_list _, _, rfl, ?_⟩
      rw [eqv_list]
      have St5 := St4.same (sNew (o := .lst []) hq)
      generalize L2.upd H4 q (.lst []) = H5 at s5 hL5 St5
      by_cases hD : Done L s n low
      · rw [(some_nil hS).mpr hD]
        refine ifT (by rfl) ?_
        exact k1 hD H5 s5
      · have hne : someL L s n low ≠ [] := fun e => hD ((some_nil hS).mp e)
        refine ifF (by intro e; exact hne (List.map_eq_nil_iff.mp e)) ?_
        have k2 := k2 hD
        have B := some_back hS hD
        have hsub : ∀ x ∈ someL L s n low, x ∈ KL L s n low := fun x hx => (List.mem_filter.mp hx).1
        have hsl : (someL L s n low).length ≤ 1000 := Nat.le_trans (List.length_filter_le _ _) G.len
        obtain ⟨t0, r1, r2⟩ := rA.same s5
        refine ⟨_, rfl, a, _, _, _, rfl, rfl, r1, rfl, ?_⟩
        refine ⟨_, rfl, a, s, n, low, L, rfl, ⟨t0, r1, r2⟩, hS, fun H6 pf s6 nf rf => ?_⟩
        refine ⟨pf, s, (frameP L s n low).2.1, _, _, rfl, rf, frameP_len L s n low, hs2, hs9, by omega, _, _, rfl, rfl, ?_⟩
        refine ⟨_, rfl, _, rfl, d, D, KL L s n low, StF L s n low, ad, tp, someL L s n low, rfl, St5.same s6, SqL.of (s6 _ _ hL5), hsub, hsl, B, fun H7 pw s7 nw hW => ?_⟩
        have CY := roundAbout_ok B
        have hW : H7 pw = some (.lst (nvs (wayL L s n low))) := hW
        have CY : Cyc (someL L s n low) (adjf (StF L s n low)) (wayL L s n low) := CY
        have s67 : Same H5 H7 := s6.trans s7
        have St7 := St5.same s67
        have sH7 : Same H H7 := s5.trans s67
        refine ⟨Nat.zero_le _, fun p1 hp1 => ⟨Nat.zero_le _, fun p2 hp2 => ?_⟩⟩
        have n12 : p1 ≠ p2 := fun e => by rw [← e, upd_same] at hp2; cases hp2
        have hp2' : H7 p2 = none := by rw [upd_ne (Ne.symm n12)] at hp2; exact hp2
        have hwl : (wayL L s n low).length ≤ 81 := by
          have h1 := nodup_le CY.nd fun x hx => hsub x (CY.sub x hx)
          have h2 : (KL L s n low).length ≤ NN L s n low * NN L s n low := keysL_len (N := NN L s n low) hN0
          have h3 : NN L s n low * NN L s n low ≤ 9 * 9 := Nat.mul_le_mul hN9 hN9
          omega
        have hW8 : (L2.upd H7 p1 (.lst [])) pw = some (.lst (nvs (wayL L s n low))) := by rw [upd_ne (ne_of_none hW hp1)]; exact hW
        have hW9 : (L2.upd (L2.upd H7 p1 (.lst [])) p2 (.lst [])) pw = some (.lst (nvs (wayL L s n low))) := by rw [upd_ne (ne_of_none hW8 hp2)]; exact hW8
        refine ⟨_, rfl, pw, _, rfl, .inl (SqL.of hW9), _, rfl, ?_, ?_, ?_⟩
        · rw [nvs_len]; omega
        · rw [nvs_len]; omega
        rw [nvs_len]
        have elong : (((frameP L s n low).2.1 : Nat) : Int) - 1 = (((frameP L s n low).2.1 - 1 : Nat) : Int) := by omega
        have hF := frameP_lt (n := n) (low := low) (by omega : 0 < s) hLs
        refine for_range0 (n := (wayL L s n low).length) (fun k σ H' => ∃ q1 q2 u9 u10 u11 u12, σ = [some (.ref a), some (.ref d), some (.ref c), some (.ref D), some (nv s), some (.int ((((frameP L s n low).2.1 : Nat) : Int) - 1)), some (.ref pw), some (.ref q1), some (.ref q2), u9, u10, u11, u12, none] ∧
          Same H7 H' ∧ H7 q1 = none ∧ H7 q2 = none ∧ q1 ≠ q2 ∧ H' q1 = some (.lst (nvs (tw1 s ((frameP L s n low).2.1 - 1) (StF L s n low) (wayL L s n low) k))) ∧ H' q2 = some (.lst (nvs (tw2 s ((frameP L s n low).2.1 - 1) (StF L s n low) (wayL L s n low) k))))
          ⟨p1, p2, none, none, none, none, rfl, sUp (sNew hp1) hp2', hp1, hp2', n12, by rw [upd_ne n12, upd_same]; rfl, upd_same⟩ ?_ ?_
        · rintro k σ H' hk ⟨q1, q2, u9, u10, u11, u12, rfl, s8, nq1, nq2, n12, hQ1, hQ2⟩
          have St8 := St7.same s8
          have hW8 := s8 _ _ hW
          have hgk : (wayL L s n low)[k]? = some ((wayL L s n low).getD k 0) := by rw [List.getD_eq_getElem?_getD, List.getElem?_eq_getElem hk]; rfl
          have hk1 : (k + 1) % (wayL L s n low).length < (wayL L s n low).length := Nat.mod_lt _ CY.ne
          have hgk1 : (wayL L s n low)[(k + 1) % (wayL L s n low).length]? = some ((wayL L s n low).getD ((k + 1) % (wayL L s n low).length) 0) := by rw [List.getD_eq_getElem?_getD, List.getElem?_eq_getElem hk1]; rfl
          have hst := CY.step k hk
          have eg0 : (wayL L s n low)[k] = (wayL L s n low).getD k 0 := by rw [List.getD_eq_getElem?_getD, List.getElem?_eq_getElem hk]; rfl
          have eg1 : (wayL L s n low)[(k + 1) % (wayL L s n low).length] = (wayL L s n low).getD ((k + 1) % (wayL L s n low).length) 0 := by rw [List.getD_eq_getElem?_getD, List.getElem?_eq_getElem hk1]; rfl
          rw [eg0, eg1] at hst
          have hbK : (wayL L s n low).getD k 0 ∈ KL L s n low := hsub _ (CY.sub _ (by rw [← eg0]; exact List.getElem_mem _))
          have lo := look_ok hF CY k hk
          have lkm := look_mem hst
          have tupAt := St8.tup _ hbK _ lkm
          have emod : ((k : Int) + 1) % (((nvs (wayL L s n low)).length : Nat) : Int) = (((k + 1) % (wayL L s n low).length : Nat) : Int) := by rw [nvs_len]; rfl
          have gin := dget_inn (e := (wayL L s n low).getD ((k + 1) % (wayL L s n low).length) 0) (St8.inn _ hbK)
          rw [if_pos hst] at gin
          have eLK : lookK (StF L s n low) (wayL L s n low) k = look (StF L s n low) ((wayL L s n low).getD k 0) ((wayL L s n low).getD ((k + 1) % (wayL L s n low).length) 0) := rfl
          rw [← eLK] at tupAt
          have lo1 : (lookK (StF L s n low) (wayL L s n low) k).1 < (frameP L s n low).2.2.length := lo.1
          have lo2 : (lookK (StF L s n low) (wayL L s n low) k).2 < (frameP L s n low).2.2.length := lo.2.1
          have t1s := tw1_succ s ((frameP L s n low).2.1 - 1) (StF L s n low) (wayL L s n low) k
          have t2s := tw2_succ s ((frameP L s n low).2.1 - 1) (StF L s n low) (wayL L s n low) k
          have t1l := tw1_le s ((frameP L s n low).2.1 - 1) (StF L s n low) (wayL L s n low) k
          have t2l := tw2_le s ((frameP L s n low).2.1 - 1) (StF L s n low) (wayL L s n low) k
          have kl : k * ((frameP L s n low).2.1 - 1 + 1) ≤ 81 * 9 := Nat.mul_le_mul (by omega) (by omega)
          have fl := fedL_len s ((frameP L s n low).2.1 - 1) ((wayL L s n low).getD k 0) (lookK (StF L s n low) (wayL L s n low) k).1
          generalize tw1 s ((frameP L s n low).2.1 - 1) (StF L s n low) (wayL L s n low) k = A1 at t1s t1l hQ1
          generalize tw2 s ((frameP L s n low).2.1 - 1) (StF L s n low) (wayL L s n low) k = A2 at t2s t2l hQ2
          refine ⟨_, rfl, _, rfl, _, rfl, pw, _, _, _, rfl, rfl, SqL.of hW8, atI_nat (nvs_at hgk), d, _, rfl, steps_get St8 hbK, ?_⟩
          refine ⟨_, rfl, _, rfl, _, _, rfl, rfl, _, rfl, pw, _, rfl, .inl (SqL.of hW8), _, _, rfl, rfl, ?_, pw, _, _, _, rfl, rfl, SqL.of hW8, at_of (j := (k + 1) % (wayL L s n low).length) emod (nvs_at hgk1), ad ((wayL L s n low).getD k 0), _, rfl, gin, ?_⟩
          · show (0 : Int) < (((nvs (wayL L s n low)).length : Nat) : Int)
            rw [nvs_len]
            have := CY.ne
            omega
          refine ⟨_, _, rfl, SqT.of tupAt, rfl, _, _, rfl, _, _, rfl, rfl, ?_⟩
          have hm0 : (lookK (StF L s n low) (wayL L s n low) k).1 / s < s ^ ((frameP L s n low).2.1 - 1) := by
            rw [← e1]
            exact (Nat.div_lt_iff_lt_mul (by omega)).mpr (by rw [← e2]; exact lo1)
          generalize lookK (StF L s n low) (wayL L s n low) k = lr at t1s t2s lo1 lo2 hm0 fl
          -- behind the if: the two appends
          have tail : ∀ (H9 : Hp) (x1 x2 : Addr) (u12 : Option V) (fed : List Nat), fedL s ((frameP L s n low).2.1 - 1) ((wayL L s n low).getD k 0) lr.1 = fed → Same H7 H9 → H7 x1 = none → H7 x2 = none → x1 ≠ x2 → H9 x1 = some (.lst (nvs (A1 ++ fed))) → H9 x2 = some (.lst (nvs (A2 ++ fed))) →
              ∃ q1 q2 u9 u10 u11 u12', ([some (.ref a), some (.ref d), some (.ref c), some (.ref D), some (nv s), some (.int ((((frameP L s n low).2.1 : Nat) : Int) - 1)), some (.ref pw), some (.ref x1), some (.ref x2), some (nv k), some (nv lr.1), some (nv lr.2), u12, none] : L2.St) = [some (.ref a), some (.ref d), some (.ref c), some (.ref D), some (nv s), some (.int ((((frameP L s n low).2.1 : Nat) : Int) - 1)), some (.ref pw), some (.ref q1), some (.ref q2), u9, u10, u11, u12', none] ∧
              Same H7 (L2.upd (L2.upd H9 x1 (.lst (nvs (A1 ++ fed) ++ [nv (lr.1 % s)]))) x2 (.lst (nvs (A2 ++ fed) ++ [nv (lr.2 % s)]))) ∧ H7 q1 = none ∧ H7 q2 = none ∧ q1 ≠ q2 ∧
              (L2.upd (L2.upd H9 x1 (.lst (nvs (A1 ++ fed) ++ [nv (lr.1 % s)]))) x2 (.lst (nvs (A2 ++ fed) ++ [nv (lr.2 % s)]))) q1 = some (.lst (nvs (tw1 s ((frameP L s n low).2.1 - 1) (StF L s n low) (wayL L s n low) (k + 1)))) ∧
              (L2.upd (L2.upd H9 x1 (.lst (nvs (A1 ++ fed) ++ [nv (lr.1 % s)]))) x2 (.lst (nvs (A2 ++ fed) ++ [nv (lr.2 % s)]))) q2 = some (.lst (nvs (tw2 s ((frameP L s n low).2.1 - 1) (StF L s n low) (wayL L s n low) (k + 1)))) := by
            intro H9 x1 x2 u12 fed ef s9 nx1 nx2 nx g1 g2
            refine ⟨x1, x2, _, _, _, _, rfl, sUp (sUp s9 nx1) nx2, nx1, nx2, nx, ?_, ?_⟩
            · rw [upd_ne nx, upd_same, t1s, ef, ← List.append_assoc]
              show _ = some (HO.lst (List.map nv (_ ++ [lr.1 % s])))
              rw [List.map_append]
              rfl
            · rw [upd_same, t2s, ef, ← List.append_assoc]
              show _ = some (HO.lst (List.map nv (_ ++ [lr.2 % s])))
              rw [List.map_append]
              rfl
          refine ⟨_, rfl, _, rfl, pw, _, _, _, rfl, rfl, SqL.of hW8, atI_nat (nvs_at hgk), rfl, _, rfl, ?_⟩
          refine if2 (fun h => ?_) (fun h => ?_)
          · have h0 : (wayL L s n low).getD k 0 = 0 := (nv_eq (b := 0)).mp h
            have ef : fedL s ((frameP L s n low).2.1 - 1) ((wayL L s n low).getD k 0) lr.1 = wordN s ((frameP L s n low).2.1 - 1) (lr.1 / s) := by unfold fedL; rw [if_pos h0]
            rw [ef] at fl
            refine ⟨_, rfl, _, rfl, _, _, rfl, rfl, ⟨by omega, by omega⟩, _, rfl, _, rfl, lr.1 / s, s, (frameP L s n low).2.1 - 1, by rw [elong]; rfl, by omega, hs9, by omega, hm0, fun H9 x s9 nx hX => ?_⟩
            generalize wordN s ((frameP L s n low).2.1 - 1) (lr.1 / s) = wd at hX ef fl
            refine ⟨_, rfl, _, rfl, q1, x, _, _, rfl, rfl, s9 _ _ hQ1, hX, by rw [nvs_len, nvs_len]; exact Nat.le_of_lt (small_line (by omega)), fun y1 hy1 => ?_⟩
            have n2y : q2 ≠ y1 := ne_of_none (s9 _ _ hQ2) hy1
            have nxy : x ≠ y1 := ne_of_none hX hy1
            refine ⟨_, rfl, _, rfl, q2, x, _, _, rfl, rfl, by rw [upd_ne n2y]; exact s9 _ _ hQ2, by rw [upd_ne nxy]; exact hX, by rw [nvs_len, nvs_len]; exact Nat.le_of_lt (small_line (by omega)), fun y2 hy2 => ?_⟩
            have nyy : y1 ≠ y2 := fun e => by rw [← e, upd_same] at hy2; cases hy2
            have hy2' : H9 y2 = none := by rw [upd_ne (Ne.symm nyy)] at hy2; exact hy2
            have sA : Same H7 (L2.upd (L2.upd H9 y1 (.lst (nvs A1 ++ nvs wd))) y2 (.lst (nvs A2 ++ nvs wd))) := sUp (sUp (s8.trans s9) ((s8.trans s9).free hy1)) ((s8.trans s9).free hy2')
            have g1 : (L2.upd (L2.upd H9 y1 (.lst (nvs A1 ++ nvs wd))) y2 (.lst (nvs A2 ++ nvs wd))) y1 = some (.lst (nvs (A1 ++ wd))) := by rw [upd_ne nyy, upd_same, nvs_app]
            have g2 : (L2.upd (L2.upd H9 y1 (.lst (nvs A1 ++ nvs wd))) y2 (.lst (nvs A2 ++ nvs wd))) y2 = some (.lst (nvs (A2 ++ wd))) := by rw [upd_same, nvs_app]
            have ff1 := (s8.trans s9).free hy1
            have ff2 := (s8.trans s9).free hy2'
            generalize L2.upd (L2.upd H9 y1 (.lst (nvs A1 ++ nvs wd))) y2 (.lst (nvs A2 ++ nvs wd)) = HA at sA g1 g2
            refine ⟨_, rfl, .inl ⟨rfl, _, SqL.of g1⟩, _, rfl, _, rfl, _, _, rfl, rfl, (by show (0 : Int) < (s : Int); omega), y1, _, _, rfl, rfl, g1, small_line (by rw [nvs_len, List.length_append]; omega), ?_⟩
            have g2' : (L2.upd HA y1 (.lst (nvs (A1 ++ wd) ++ [nv (lr.1 % s)]))) y2 = some (.lst (nvs (A2 ++ wd))) := by rw [upd_ne (Ne.symm nyy)]; exact g2
            refine ⟨_, rfl, .inl ⟨rfl, _, SqL.of g2'⟩, _, rfl, _, rfl, _, _, rfl, rfl, (by show (0 : Int) < (s : Int); omega), y2, _, _, rfl, rfl, g2', small_line (by rw [nvs_len, List.length_append]; omega), ?_⟩
            exact tail HA y1 y2 _ wd ef sA ff1 ff2 nyy g1 g2
          · have h0 : ¬ (wayL L s n low).getD k 0 = 0 := fun e => h (by rw [e]; rfl)
            have ef : fedL s ((frameP L s n low).2.1 - 1) ((wayL L s n low).getD k 0) lr.1 = [] := by unfold fedL; rw [if_neg h0]
            refine ⟨_, rfl, .inl ⟨rfl, _, SqL.of hQ1⟩, _, rfl, _, rfl, _, _, rfl, rfl, (by show (0 : Int) < (s : Int); omega), q1, _, _, rfl, rfl, hQ1, small_line (by rw [nvs_len]; omega), ?_⟩
            have g2' : (L2.upd H' q1 (.lst (nvs A1 ++ [nv (lr.1 % s)]))) q2 = some (.lst (nvs A2)) := by rw [upd_ne (Ne.symm n12)]; exact hQ2
            refine ⟨_, rfl, .inl ⟨rfl, _, SqL.of g2'⟩, _, rfl, _, rfl, _, _, rfl, rfl, (by show (0 : Int) < (s : Int); omega), q2, _, _, rfl, rfl, g2', small_line (by rw [nvs_len]; omega), ?_⟩
            have := tail H' q1 q2 u12 [] ef s8 nq1 nq2 n12 (by rw [List.append_nil]; exact hQ1) (by rw [List.append_nil]; exact hQ2)
            rw [List.append_nil, List.append_nil] at this
            exact this
        · rintro σ H' ⟨q1, q2, u9, u10, u11, u12, rfl, s8, nq1, nq2, n12, hQ1, hQ2⟩
          refine ⟨_, rfl, _, rfl, by show 2 ≤ sizeLine; decide, fun p hp => ?_⟩
          have sF : Same H H' := sH7.trans s8
          exact k2 _ p q1 q2 (sF.trans (sNew hp)) (sF.free hp) (sH7.free nq1) upd_same (by rw [upd_ne (ne_of_none hQ1 hp)]; exact hQ1) (by rw [upd_ne (ne_of_none hQ2 hp)]; exact hQ2)
end
end K52
set_option Elab.async false
set_option maxRecDepth 100000
namespace K52
open PySem L2
theorem asV {Q : VK} {v v' : V} {H : Hp} (k : Q v' H) (e : v = v') : Q v H := e ▸ k
/-- the law's stream -/
def strN (c : Int) : Nat → Nat
  | 0 => (c % 2147483647).toNat + 48271
  | k + 1 => (strN c k * 48271 + k * k + 11) % 2147483647
def strL (c : Int) (n : Nat) : List Nat := (List.range n).map fun k => strN c (k + 1) / 7
section
variable {P : Program} {w : World} {K : PySem.W.Frag} {mg : Str → Option Value} {base : Heap}
abbrev st__law_whole : Stmt := top 38
theorem sc__law_whole : FnScope ["_law_found"] ["_law_found"] (defScope st__law_whole) := ⟨rfl, rfl, rfl, by decide +kernel, rfl, by decide +kernel, by decide +kernel⟩
def sp_whole : Sp := fun vs H Q _ => ∃ i : Int, vs = [.int i] ∧ Q (.bl true) H
theorem has_whole (F : FunC K mg "_law_whole" 38 ["_law_found"]) (T : Bt mg) : Has P w K mg base 1 "_law_whole" ["_law_found"] sp_whole := by
  obtain ⟨f, fd, F, C⟩ := F
  refine ⟨f, fd, F.ok sc__law_whole (fun vs H Q E h => ?_) (fun cdv A outer s H vs Q E hr h => ?_), C⟩
  · obtain ⟨i, rfl, _⟩ := h
    rfl
  · obtain ⟨i, rfl, k⟩ := h
    refine ⟨_, (pss_one (ps_ret (pe_and (pe_callB call_isi (by rfl) T.isinstance (by decide +kernel) (pa_cons (pv 0) (pa_cons (pe_bltn (v := .ty "int") (by rfl) T.int (by decide +kernel) rfl) pa_nil))) (pe_one (pe_not (pe_callB call_isi (by rfl) T.isinstance (by decide +kernel) (pa_cons (pv 0) (pa_cons (pe_bltn (v := .ty "bool") (by rfl) T.bool (by decide +kernel) rfl) pa_nil)))))))), ?_⟩
    refine ⟨_, rfl, _, _, _, _, true, rfl, .ty "int", .base (.int i), kit_ty (by decide +kernel), _, rfl, ?_⟩
    exact ⟨_, rfl, _, _, _, _, false, rfl, .ty "bool", .base (.int i), kit_ty (by decide +kernel), _, rfl, k⟩

abbrev st__law_cell_at : Stmt := top 39
theorem sc__law_cell_at : FnScope ["_law_script", "_law_k"] ["_law_script", "_law_k"] (defScope st__law_cell_at) := ⟨rfl, rfl, rfl, by decide +kernel, rfl, by decide +kernel, by decide +kernel⟩
def sp_cell_at (K : PySem.W.Frag) : Sp := fun vs H Q _ => ∃ (a : Addr) (k : Nat) (ns : List Int), vs = [.ref a, nv k] ∧ SqL K H a (ns.map V.int) ∧ Q (.int (ns.getD k 0)) H
theorem has_cell_at (F : FunC K mg "_law_cell_at" 39 ["_law_script", "_law_k"]) (T : Bt mg) : Has P w K mg base 1 "_law_cell_at" ["_law_script", "_law_k"] (sp_cell_at K) := by
  obtain ⟨f, fd, F, C⟩ := F
  refine ⟨f, fd, F.ok sc__law_cell_at (fun vs H Q E h => ?_) (fun cdv A outer s H vs Q E hr h => ?_), C⟩
  · obtain ⟨a, k, ns, rfl, _⟩ := h
    rfl
  · obtain ⟨a, k, ns, rfl, hS, kk⟩ := h
    refine ⟨_, (pss_cons (ps_if (pt_cmpR op_lt (pv 1) (pe_callB call_len_seq (by rfl) T.len PySem.boot_len (pa_cons (pv 0) pa_nil)) (nomark _))
        (pss_one (ps_ret (pe_ix ix_list (pv 0) (pv 1) (fun _ _ => rfl))))
        pss_nil)
      (pss_one (ps_ret pe_int))), ?_⟩
    refine ⟨_, rfl, _, rfl, a, _, rfl, .inl hS, _, _, rfl, rfl, _, rfl, ?_⟩
    rw [List.length_map]
    rw [List.getD_eq_getElem?_getD] at kk
    refine if2 (fun h => ?_) (fun h => ?_)
    · have hk : k < ns.length := by omega
      rw [List.getElem?_eq_getElem hk] at kk
      exact ⟨_, rfl, _, rfl, a, _, _, _, rfl, rfl, hS, atI_nat (by rw [List.getElem?_map, List.getElem?_eq_getElem hk]; rfl), kk⟩
    · rw [List.getElem?_eq_none (by omega)] at kk
      exact kk

abbrev st__law_stream : Stmt := top 40
theorem sc__law_stream : FnScope ["_law_cell", "_law_many", "_law_found", "_law_number", "_law_k"] ["_law_cell", "_law_many"] (defScope st__law_stream) := ⟨rfl, rfl, rfl, by decide +kernel, rfl, by decide +kernel, by decide +kernel⟩
def sp_stream : Sp := fun vs H Q _ => ∃ (c : Int) (n : Nat), vs = [.int c, nv n] ∧ n ≤ 1000 ∧ NewL H (nvs (strL c n)) Q
theorem has_stream (F : FunC K mg "_law_stream" 40 ["_law_cell", "_law_many"]) (T : Bt mg) : Has P w K mg base 1 "_law_stream" ["_law_cell", "_law_many"] sp_stream := by
  obtain ⟨f, fd, F, C⟩ := F
  refine ⟨f, fd, F.ok sc__law_stream (fun vs H Q E h => ?_) (fun cdv A outer s H vs Q E hr h => ?_), C⟩
  · obtain ⟨c, n, rfl, _⟩ := h
    rfl
  · obtain ⟨c, n, rfl, hn, kk⟩ := h
    refine ⟨_, (pss_cons (ps_set (i := 2) sc__law_stream.nd rfl (Or.inl rfl) (pe_lst pa_nil))
      (pss_cons (ps_set (i := 3) sc__law_stream.nd rfl (Or.inl rfl) (pe_op op_add (pe_op op_mod (pv 0) pe_int) pe_int))
      (pss_cons (ps_for PassesOwn.never rfl (pi_range1 (by rfl) T.range (pa_cons (pv 1) pa_nil)) (pg_name (i := 4) sc__law_stream.nd rfl (Or.inl rfl))
        (pss_cons (ps_set (i := 3) sc__law_stream.nd rfl (Or.inl rfl) (pe_op op_mod (pe_op op_add (pe_op op_add (pe_op op_mul (pv 3) pe_int) (pe_op op_mul (pv 4) (pv 4))) pe_int) pe_int))
        (pss_one (ps_expr (pe_bm PySem.F.plainAttrs_list PySem.F.slot_list_append PySem.F.type_list_append mt_append (pv 2) (pa_cons (pe_op op_fdiv (pv 3) pe_int) pa_nil))))))
      (pss_one (ps_ret (pv 2)))))), ?_⟩
    refine ⟨Nat.zero_le _, fun p hp => ?_⟩
    refine ⟨_, rfl, _, _, rfl, rfl, (by show (0 : Int) < 2147483647; decide), _, _, rfl, rfl, ?_⟩
    refine ⟨_, rfl, _, rfl, by omega, by omega, for_range0 (n := n) (fun i σ H' => ∃ u, σ = [some (.int c), some (nv n), some (.ref p), some (nv (strN c i)), u] ∧ Same H H' ∧ H' p = some (.lst (nvs ((List.range i).map fun k => strN c (k + 1) / 7)))) ⟨none, ?_, sNew hp, upd_same⟩ ?_ ?_⟩
    · have e : c % 2147483647 + 48271 = ((strN c 0 : Nat) : Int) := by
        have h1 : 0 ≤ c % 2147483647 := Int.emod_nonneg _ (by decide)
        show _ = (((c % 2147483647).toNat + 48271 : Nat) : Int)
        omega
      exact congrArg (fun z : Int => [some (V.int c), some (nv n), some (.ref p), some (.int z), none]) e
    · rintro i σ H' hi ⟨u, rfl, sm, hL⟩
      refine ⟨_, rfl, _, _, rfl, rfl, .inr ⟨by decide, by decide⟩, _, rfl, _, rfl, _, _, rfl, rfl, .inl ⟨by omega, by omega⟩, _, _, rfl, rfl, _, _, rfl, rfl, _, _, rfl, rfl, (by show (0 : Int) < 2147483647; decide), ?_⟩
      refine ⟨_, rfl, .inl ⟨rfl, _, SqL.of hL⟩, _, rfl, _, _, rfl, rfl, ⟨by decide, by decide⟩, p, _, _, rfl, rfl, hL, small_line (by rw [nvs_len, List.length_map, List.length_range]; omega), ?_⟩
      refine ⟨some (nv i), rfl, sUp sm hp, ?_⟩
      rw [upd_same, List.range_succ, List.map_append]
      show _ = some (HO.lst (List.map nv (_ ++ [strN c (i + 1) / 7])))
      rw [List.map_append]
      rfl
    · rintro σ H' ⟨u, rfl, sm, hL⟩
      exact ⟨_, rfl, kk _ p sm hp hL⟩

abbrev st__law_power : Stmt := top 41
theorem sc__law_power : FnScope ["_law_signs", "_law_many", "_law_size", "_law_k"] ["_law_signs", "_law_many"] (defScope st__law_power) := ⟨rfl, rfl, rfl, by decide +kernel, rfl, by decide +kernel, by decide +kernel⟩
theorem has_lpower (F : FunC K mg "_law_power" 41 ["_law_signs", "_law_many"]) (T : Bt mg) : Has P w K mg base 1 "_law_power" ["_law_signs", "_law_many"] sp_power := by
  obtain ⟨f, fd, F, C⟩ := F
  refine ⟨f, fd, F.ok sc__law_power (fun vs H Q E h => ?_) (fun cdv A outer s H vs Q E hr h => ?_), C⟩
  · obtain ⟨s, n, rfl, _⟩ := h
    rfl
  · obtain ⟨s, n, rfl, hs, hn, k⟩ := h
    refine ⟨_, (pss_cons (ps_set (i := 2) sc__law_power.nd rfl (Or.inl rfl) pe_int)
      (pss_cons (ps_for PassesOwn.never rfl (pi_range1 (by rfl) T.range (pa_cons (pv 1) pa_nil)) (pg_name (i := 3) sc__law_power.nd rfl (Or.inl rfl))
        (pss_one (ps_set (i := 2) sc__law_power.nd rfl (Or.inl rfl) (pe_op op_mul (pv 2) (pv 0)))))
      (pss_one (ps_ret (pv 2))))), ?_⟩
    refine ⟨_, rfl, _, rfl, by omega, by omega, for_range0 (n := n) (fun i σ H' => ∃ v, σ = [some (nv s), some (nv n), some (nv (s ^ i)), v] ∧ H' = H) ⟨none, rfl, rfl⟩ ?_ ?_⟩
    · rintro i σ H' hi ⟨v, rfl, rfl⟩
      refine ⟨_, rfl, _, rfl, _, _, rfl, rfl, .inr ⟨by omega, by omega⟩, ?_⟩
      have e : ((s ^ i : Nat) : Int) * (s : Int) = ((s ^ (i + 1) : Nat) : Int) := by rw [Nat.pow_succ]; simp
      exact ⟨_, congrArg (fun z : Int => [some (nv s), some (nv n), some (V.int z), _]) e, rfl⟩
    · rintro σ H' ⟨v, rfl, rfl⟩
      exact ⟨_, rfl, k⟩

abbrev st__law_word : Stmt := top 42
theorem sc__law_word : FnScope ["_law_number", "_law_signs", "_law_many", "_law_word_here", "_law_k"] ["_law_number", "_law_signs", "_law_many"] (defScope st__law_word) := ⟨rfl, rfl, rfl, by decide +kernel, rfl, by decide +kernel, by decide +kernel⟩
def sp_word : Sp := fun vs H Q _ => ∃ (k s n : Nat), vs = [nv k, nv s, nv n] ∧ 1 ≤ s ∧ s ≤ 9 ∧ n ≤ 1000 ∧ NewL H (nvs (wordN s n k)) Q
theorem wordN_front (s : Nat) : ∀ n k, wordN s (n + 1) k = (k / s ^ n % s) :: wordN s n k
  | 0, k => by
    show [] ++ [k % s] = [k / 1 % s]
    rw [Nat.div_one]
    rfl
  | n + 1, k => by
    show wordN s (n + 1) (k / s) ++ [k % s] = _
    rw [wordN_front s n (k / s), Nat.div_div_eq_div_mul, Nat.pow_succ, Nat.mul_comm s]
    rfl
theorem has_word (F : FunC K mg "_law_word" 42 ["_law_number", "_law_signs", "_law_many"]) (T : Bt mg) : Has P w K mg base 1 "_law_word" ["_law_number", "_law_signs", "_law_many"] sp_word := by
  obtain ⟨f, fd, F, C⟩ := F
  refine ⟨f, fd, F.ok sc__law_word (fun vs H Q E h => ?_) (fun cdv A outer s H vs Q E hr h => ?_), C⟩
  · obtain ⟨k, s, n, rfl, _⟩ := h
    rfl
  · obtain ⟨k, s, n, rfl, hs1, hs9, hn, kk⟩ := h
    refine ⟨_, (pss_cons (ps_set (i := 3) sc__law_word.nd rfl (Or.inl rfl) (pe_lst pa_nil))
      (pss_cons (ps_for PassesOwn.never rfl (pi_range1 (by rfl) T.range (pa_cons (pv 2) pa_nil)) (pg_name (i := 4) sc__law_word.nd rfl (Or.inl rfl))
        (pss_cons (ps_set (i := 3) sc__law_word.nd rfl (Or.inl rfl) (pe_op op_cat (pe_lst (pa_cons (pe_op op_mod (pv 0) (pv 1)) pa_nil)) (pv 3)))
        (pss_one (ps_set (i := 0) sc__law_word.nd rfl (Or.inl rfl) (pe_op op_fdiv (pv 0) (pv 1))))))
      (pss_one (ps_ret (pv 3))))), ?_⟩
    refine ⟨Nat.zero_le _, fun p hp => ?_⟩
    refine ⟨_, rfl, _, rfl, by omega, by omega, for_range0 (n := n) (fun i σ H' => ∃ q u, σ = [some (nv (k / s ^ i)), some (nv s), some (nv n), some (.ref q), u] ∧ Same H H' ∧ H q = none ∧ H' q = some (.lst (nvs (wordN s i k)))) ⟨p, none, by rw [Nat.pow_zero, Nat.div_one]; rfl, sNew hp, hp, upd_same⟩ ?_ ?_⟩
    · rintro i σ H' hi ⟨q, u, rfl, sm, nq, hL⟩
      refine ⟨_, rfl, _, rfl, _, _, rfl, rfl, (by show (0 : Int) < (s : Int); omega), by show 1 ≤ sizeLine; decide, fun x hx => ?_⟩
      have nqx := ne_of_none hL hx
      refine ⟨_, rfl, x, q, _, _, rfl, rfl, upd_same, by rw [upd_ne nqx]; exact hL, ?_, fun y hy => ?_⟩
      · rw [nvs_len, wordN_len]
        show 1 + i ≤ sizeLine
        exact Nat.le_of_lt (small_line (by omega))
      · have nxy : x ≠ y := fun e => by rw [← e, upd_same] at hy; cases hy
        have hy' : H' y = none := by rw [upd_ne (Ne.symm nxy)] at hy; exact hy
        refine ⟨_, rfl, _, rfl, _, _, rfl, rfl, ⟨by omega, by omega⟩, y, some (nv i), ?_, sUp (sUp sm (sm.free hx)) (sm.free hy'), sm.free hy', ?_⟩
        · rw [Nat.pow_succ, ← Nat.div_div_eq_div_mul]
          rfl
        · rw [upd_same, wordN_front]
          rfl
    · rintro σ H' ⟨q, u, rfl, sm, nq, hL⟩
      exact ⟨_, rfl, kk _ q sm nq hL⟩

abbrev st__law_low : Stmt := top 51
theorem sc__law_low : FnScope ["_law_cell"] ["_law_cell"] (defScope st__law_low) := ⟨rfl, rfl, rfl, by decide +kernel, rfl, by decide +kernel, by decide +kernel⟩
def sp_low : Sp := fun vs H Q _ => ∃ c : Int, vs = [.int c] ∧ ∀ z : Int, Q (.int z) H
theorem has_low (F : FunC K mg "_law_low" 51 ["_law_cell"]) : Has P w K mg base 1 "_law_low" ["_law_cell"] sp_low := by
  obtain ⟨f, fd, F, C⟩ := F
  refine ⟨f, fd, F.ok sc__law_low (fun vs H Q E h => ?_) (fun cdv A outer s H vs Q E hr h => ?_), C⟩
  · obtain ⟨c, rfl, _⟩ := h
    rfl
  · obtain ⟨c, rfl, kk⟩ := h
    refine ⟨_, (pss_cons (ps_if (pt_cmpR op_eq (pe_op op_mod (pv 0) pe_int) pe_int (nomark _))
        (pss_one (ps_ret (pe_op op_sub (pe_op op_mod (pe_op op_fdiv (pv 0) pe_int) pe_int) pe_int)))
        pss_nil)
      (pss_one (ps_ret (pe_op op_add (pe_op op_sub (pe_op op_mod (pe_op op_mul (pe_op op_fdiv (pv 0) pe_int) pe_int) (pe_op op_sub (pe_op op_mul pe_int (pe_op op_pow pe_int pe_int)) pe_int)) (pe_op op_pow pe_int pe_int)) pe_int)))), ?_⟩
    refine ⟨_, rfl, _, _, rfl, rfl, (by show (0 : Int) < 2; decide), rfl, _, rfl, ?_⟩
    refine if2 (fun h => ?_) (fun h => ?_)
    · exact ⟨_, rfl, _, _, rfl, rfl, ⟨by decide, by decide⟩, _, _, rfl, rfl, (by show (0 : Int) < 19; decide), _, _, rfl, rfl, kk _⟩
    · refine ⟨_, rfl, _, _, rfl, rfl, ⟨by decide, by decide⟩, _, _, rfl, rfl, .inr ⟨by decide, by decide⟩, _, _, rfl, rfl, ⟨by decide, by decide, by decide⟩, _, _, rfl, rfl, .inl ⟨by decide, by decide⟩, _, _, rfl, rfl, _, _, rfl, rfl, (by show (0 : Int) < 2 * 10 ^ 59 - 1; decide), _, _, rfl, rfl, ⟨by decide, by decide, by decide⟩, _, _, rfl, rfl, _, _, rfl, rfl, kk _⟩
end
end K52
set_option Elab.async false
set_option maxRecDepth 100000
namespace K52
open PySem L2
section
variable {P : Program} {w : World} {K : PySem.W.Frag} {mg : Str → Option Value} {base : Heap}
theorem at_k {l : List Nat} {z : Int} (k : Nat) (e : z = (k : Int)) (h : k < l.length) : atI (nvs l) z = some (nv (tb l k)) := at_of (j := k) e (tb_get h)
abbrev st__law_tracks : Stmt := top 43
theorem sc__law_tracks : FnScope ["_law_signs", "_law_xs", "_law_here", "_law_there", "_law_share"] ["_law_signs", "_law_xs", "_law_here", "_law_there"] (defScope st__law_tracks) := ⟨rfl, rfl, rfl, by decide +kernel, rfl, by decide +kernel, by decide +kernel⟩
def sp_tracks (K : PySem.W.Frag) : Sp := fun vs H Q _ => ∃ (a : Addr) (s h t : Nat) (xs : List Nat), vs = [nv s, .ref a, nv h, nv t] ∧ SqL K H a (nvs xs) ∧ 15 ≤ xs.length ∧ s ≤ 9 ∧ Pure H (nv (tracksF s (tb xs 10) h t)) Q
theorem has_tracks (F : FunC K mg "_law_tracks" 43 ["_law_signs", "_law_xs", "_law_here", "_law_there"]) (T : Bt mg) : Has P w K mg base 1 "_law_tracks" ["_law_signs", "_law_xs", "_law_here", "_law_there"] (sp_tracks K) := by
  obtain ⟨f, fd, F, C⟩ := F
  refine ⟨f, fd, F.ok sc__law_tracks (fun vs H Q E h => ?_) (fun cdv A outer s H vs Q E hr h => ?_), C⟩
  · obtain ⟨a, s, h, t, xs, rfl, _⟩ := h
    rfl
  · obtain ⟨a, s, h, t, xs, rfl, hX, hl, hs9, kk⟩ := h
    refine ⟨_, (pss_cons (ps_set (i := 4) sc__law_tracks.nd rfl (Or.inl rfl) (pe_ix ix_list (pe_lst (pa_cons pe_int (pa_cons pe_int pa_nil))) (pe_callTy call_int1 (by rfl) T.int (by decide +kernel) (pa_cons (pe_or (pe_cmpR op_eq (pv 0) pe_int (nomark _)) (pe_one (pe_and (pe_cmpR op_eq (pv 0) pe_int (nomark _)) (pe_one (pe_cmpR op_eq (pe_op op_mod (pe_ix ix_list (pv 1) pe_int (fun _ _ => rfl)) pe_int) pe_int (nomark _)))))) pa_nil)) (fun _ _ => rfl)))
      (pss_cons (ps_if (PW.pt (pw_and (pt_cmpR op_eq (pv 0) pe_int (nomark _)) (pw_and1 (pt_cmpR op_eq (pe_op op_mod (pe_ix ix_list (pv 1) pe_int (fun _ _ => rfl)) pe_int) pe_int (nomark _)))))
        (pss_one (ps_set (i := 4) sc__law_tracks.nd rfl (Or.inl rfl) pe_int))
        pss_nil)
      (pss_one (ps_ret (pe_op op_add (pe_op op_mul (pe_op op_fdiv (pv 2) (pv 4)) (pv 4)) (pe_op op_mod (pv 3) (pv 4))))))), ?_⟩
    have ex : atI (nvs xs) 10 = some (nv (tb xs 10)) := at_k 10 rfl (by omega)
    -- behind the choice of share
    have fin : ∀ (H1 : Hp) (sh : Nat), Same H H1 → 2 ≤ sh → sh ≤ 4 → (s = 8 ∧ tb xs 10 % 2 = 1 → sh = 4) → (¬ (s = 8 ∧ tb xs 10 % 2 = 1) → sh = if s = 9 ∨ (s = 6 ∧ tb xs 10 % 2 = 1) then 3 else 2) → Q (nv (h / sh * sh + t % sh)) H1 := fun H1 sh s1 h2 h4 e1 e2 => by
      have := kk H1 s1
      unfold tracksF at this
      have e : sh = if s = 8 ∧ tb xs 10 % 2 = 1 then 4 else if s = 9 ∨ (s = 6 ∧ tb xs 10 % 2 = 1) then 3 else 2 := by
        by_cases q : s = 8 ∧ tb xs 10 % 2 = 1
        · rw [if_pos q, e1 q]
        · rw [if_neg q, e2 q]
      rw [← e] at this
      exact this
    refine ⟨by show 2 ≤ sizeLine; decide, fun p hp => ?_⟩
    have s1 : Same H (L2.upd H p (.lst [.int 2, .int 3])) := sNew hp
    -- the share as an item of the list
    have sel : ∀ b : Bool, (atI [V.int 2, V.int 3] (if b then 1 else 0)) = some (nv (if b then 3 else 2)) := fun b => by cases b <;> rfl
    refine ⟨_, rfl, rfl, _, rfl, ?_⟩
    -- what follows, by the truth of the choice
    have rest : ∀ b : Bool, (b = decide (s = 9 ∨ (s = 6 ∧ tb xs 10 % 2 = 1))) → (tSeq (tIfS (tAnd (tTest (tOp rEq (tVar 0) (tC (.int 8)))) (tTest (tOp rEq (tOp (rI (fun _ j => 0 < j) fun i j => .int (i % j)) (tOp (rIxL K) (tVar 1) (tC (.int 10))) (tC (.int 2))) (tC (.int 1))))) (tAsg (tC (.int 4)) (gName 4)) tNext) (tRet (tOp (rI0 fun i j => .int (i + j)) (tOp (rI CMul fun i j => .int (i * j)) (tOp (rI CDiv fun i j => .int (i / j)) (tVar 2) (tVar 4)) (tVar 4)) (tOp (rI (fun _ j => 0 < j) fun i j => .int (i % j)) (tVar 3) (tVar 4)))))
        { nx := fun _ H' => Q .non H', rt := Q } [some (nv s), some (.ref a), some (nv h), some (nv t), some (nv (if b then 3 else 2))] (L2.upd H p (.lst [.int 2, .int 3])) := by
      intro b hb
      have out : ∀ sh : Nat, 2 ≤ sh → sh ≤ 4 → Q (nv (h / sh * sh + t % sh)) (L2.upd H p (.lst [.int 2, .int 3])) → tRet (tOp (rI0 fun i j => .int (i + j)) (tOp (rI CMul fun i j => .int (i * j)) (tOp (rI CDiv fun i j => .int (i / j)) (tVar 2) (tVar 4)) (tVar 4)) (tOp (rI (fun _ j => 0 < j) fun i j => .int (i % j)) (tVar 3) (tVar 4)))
          { nx := fun _ H' => Q .non H', rt := Q } [some (nv s), some (.ref a), some (nv h), some (nv t), some (nv sh)] (L2.upd H p (.lst [.int 2, .int 3])) := fun sh g2 g4 hq =>
        ⟨_, rfl, _, rfl, _, _, rfl, rfl, ⟨by omega, by omega⟩, _, rfl, _, _, rfl, rfl, .inr ⟨by omega, by omega⟩, _, rfl, _, rfl, _, _, rfl, rfl, (by show (0 : Int) < (sh : Int); omega), _, _, rfl, rfl, hq⟩
      have b2 : 2 ≤ (if b then 3 else 2) ∧ (if b then 3 else 2) ≤ 4 := by cases b <;> decide
      have e2 : (if b then 3 else 2) = if s = 9 ∨ (s = 6 ∧ tb xs 10 % 2 = 1) then 3 else 2 := by rw [hb]; simp
      refine ⟨_, rfl, rfl, _, rfl, ?_⟩
      refine if2 (fun g1 => ?_) (fun g1 => ?_)
      · refine ⟨_, rfl, a, _, _, _, rfl, rfl, s1.seq hX, ex, _, _, rfl, rfl, (by show (0 : Int) < 2; decide), rfl, _, rfl, ?_⟩
        have g1' : s = 8 := (nv_eq (b := 8)).mp g1
        refine if2 (fun g2 => ?_) (fun g2 => ?_)
        · have g2' : tb xs 10 % 2 = 1 := (nv_eq (a := tb xs 10 % 2) (b := 1)).mp g2
          exact out 4 (by omega) (by omega) (fin _ 4 s1 (by omega) (by omega) (fun _ => rfl) fun q => absurd ⟨g1', g2'⟩ q)
        · have g2' : ¬ tb xs 10 % 2 = 1 := fun q => g2 ((nv_eq (a := tb xs 10 % 2) (b := 1)).mpr q)
          exact out _ b2.1 b2.2 (fin _ _ s1 b2.1 b2.2 (fun q => absurd q.2 g2') fun _ => e2)
      · have g1' : ¬ s = 8 := fun q => g1 ((nv_eq (b := 8)).mpr q)
        refine iteF ?_
        exact out _ b2.1 b2.2 (fin _ _ s1 b2.1 b2.2 (fun q => absurd q.1 g1') fun _ => e2)
    refine if2 (fun h9 => ?_) (fun h9 => ?_)
    · have h9' : s = 9 := (nv_eq (b := 9)).mp h9
      refine .inr ⟨true, rfl, p, _, _, _, rfl, rfl, SqL.of upd_same, sel true, ?_⟩
      exact rest true (by simp [h9'])
    · have h9' : ¬ s = 9 := fun q => h9 ((nv_eq (b := 9)).mpr q)
      refine ⟨_, rfl, rfl, _, rfl, ?_⟩
      refine if2 (fun h6 => ?_) (fun h6 => ?_)
      · have h6' : s = 6 := (nv_eq (b := 6)).mp h6
        refine ⟨_, rfl, a, _, _, _, rfl, rfl, s1.seq hX, ex, _, _, rfl, rfl, (by show (0 : Int) < 2; decide), rfl, .inr ⟨_, rfl, p, _, _, _, rfl, rfl, SqL.of upd_same, sel _, ?_⟩⟩
        refine rest _ ?_
        have : (decide (V.int (((tb xs 10 : Nat) : Int) % 2) = V.int 1)) = decide (tb xs 10 % 2 = 1) := by
          by_cases q : tb xs 10 % 2 = 1
          · rw [decide_eq_true q]
            exact decide_eq_true ((nv_eq (a := tb xs 10 % 2) (b := 1)).mpr q)
          · rw [decide_eq_false q]
            exact decide_eq_false fun z => q ((nv_eq (a := tb xs 10 % 2) (b := 1)).mp z)
        refine this.trans ?_
        simp [h6']
      · have h6' : ¬ s = 6 := fun q => h6 ((nv_eq (b := 6)).mpr q)
        refine .inr ⟨false, rfl, p, _, _, _, rfl, rfl, SqL.of upd_same, sel false, ?_⟩
        exact rest false (by simp [h9', h6'])
end
end K52
set_option Elab.async false
set_option maxRecDepth 100000
namespace K52
open PySem L2
theorem vi {x y : Int} : (V.int x = V.int y) ↔ x = y := ⟨fun h => by injection h, fun h => h ▸ rfl⟩
section
variable {P : Program} {w : World} {K : PySem.W.Frag} {mg : Str → Option Value} {base : Heap}
abbrev st__law_marks : Stmt := top 44
theorem sc__law_marks : FnScope ["_law_signs", "_law_xs", "_law_here", "_law_there"] ["_law_signs", "_law_xs", "_law_here", "_law_there"] (defScope st__law_marks) := ⟨rfl, rfl, rfl, by decide +kernel, rfl, by decide +kernel, by decide +kernel⟩
def sp_marks (K : PySem.W.Frag) : Sp := fun vs H Q _ => ∃ (a : Addr) (s h t : Nat) (xs : List Nat), vs = [nv s, .ref a, nv h, nv t] ∧ SqL K H a (nvs xs) ∧ 15 ≤ xs.length ∧ 3 ≤ s ∧ s ≤ 9 ∧ Q (nv (marksF s (tb xs 10) h t)) H
theorem has_marks (F : FunC K mg "_law_marks" 44 ["_law_signs", "_law_xs", "_law_here", "_law_there"]) : Has P w K mg base 1 "_law_marks" ["_law_signs", "_law_xs", "_law_here", "_law_there"] (sp_marks K) := by
  obtain ⟨f, fd, F, C⟩ := F
  refine ⟨f, fd, F.ok sc__law_marks (fun vs H Q E h => ?_) (fun cdv A outer s H vs Q E hr h => ?_), C⟩
  · obtain ⟨a, s, h, t, xs, rfl, _⟩ := h
    rfl
  · obtain ⟨a, s, h, t, xs, rfl, hX, hl, hs3, hs9, kk⟩ := h
    refine ⟨_, (pss_cons (ps_if (PW.pt (pw_or (pt_cmpR op_eq (pv 2) (pe_op op_sub (pv 0) pe_int) (nomark _)) (pw_or1 (pt_cmpR op_ne (pv 3) (pe_op op_sub (pv 0) pe_int) (nomark _)))))
        (pss_one (ps_ret (pv 2)))
        pss_nil)
      (pss_one (ps_ret (pe_op op_mod (pe_op op_add (pe_op op_add (pv 2) pe_int) (pe_op op_mod (pe_ix ix_list (pv 1) pe_int (fun _ _ => rfl)) (pe_op op_sub (pv 0) pe_int))) (pe_op op_sub (pv 0) pe_int))))), ?_⟩
    have ex : atI (nvs xs) 10 = some (nv (tb xs 10)) := at_k 10 rfl (by omega)
    unfold marksF at kk
    refine ⟨_, rfl, _, rfl, _, _, rfl, rfl, rfl, _, rfl, ?_⟩
    refine if2 (fun h1 => ?_) (fun h1 => ?_)
    · have h1' : h = s - 1 := by have := vi.mp h1; omega
      rw [if_pos (.inl h1')] at kk
      exact ⟨_, rfl, kk⟩
    · have h1' : ¬ h = s - 1 := fun e => h1 (vi.mpr (by omega))
      refine ⟨_, rfl, _, rfl, _, _, rfl, rfl, rfl, _, rfl, ?_⟩
      refine ifN2 (fun h2 => ?_) (fun h2 => ?_)
      · have h2' : t ≠ s - 1 := fun e => h2 (vi.mpr (by omega))
        rw [if_pos (.inr h2')] at kk
        exact ⟨_, rfl, kk⟩
      · have h2' : t = s - 1 := by have := vi.mp h2; omega
        rw [if_neg (by intro q; rcases q with q | q; exact h1' q; exact q h2')] at kk
        refine ⟨_, rfl, _, _, rfl, rfl, _, rfl, a, _, _, _, rfl, rfl, hX, ex, _, rfl, _, _, rfl, rfl, _, _, rfl, rfl, (by show (0 : Int) < (s : Int) - 2; omega), _, _, rfl, rfl, _, rfl, _, _, rfl, rfl, _, _, rfl, rfl, (by show (0 : Int) < (s : Int) - 1; omega), ?_⟩
        refine asV kk (congrArg V.int ?_)
        show ((h : Int) + 1 + ((tb xs 10 : Nat) : Int) % ((s : Int) - 2)) % ((s : Int) - 1) = _
        rw [show (s : Int) - 2 = ((s - 2 : Nat) : Int) by omega, show (s : Int) - 1 = ((s - 1 : Nat) : Int) by omega]
        rfl

abbrev st__law_sums : Stmt := top 45
theorem sc__law_sums : FnScope ["_law_signs", "_law_xs", "_law_here", "_law_there", "_law_unit", "_law_part"] ["_law_signs", "_law_xs", "_law_here", "_law_there"] (defScope st__law_sums) := ⟨rfl, rfl, rfl, by decide +kernel, rfl, by decide +kernel, by decide +kernel⟩
def sp_sums (K : PySem.W.Frag) : Sp := fun vs H Q _ => ∃ (a : Addr) (s h t : Nat) (xs : List Nat), vs = [nv s, .ref a, nv h, nv t] ∧ SqL K H a (nvs xs) ∧ 15 ≤ xs.length ∧ 2 ≤ s ∧ s ≤ 9 ∧ h ≤ 9 ∧ t ≤ 9 ∧ Q (nv (sumsF s (tb xs 10) (tb xs 11) (tb xs 12) (tb xs 13) h t)) H
theorem has_sums (F : FunC K mg "_law_sums" 45 ["_law_signs", "_law_xs", "_law_here", "_law_there"]) : Has P w K mg base 1 "_law_sums" ["_law_signs", "_law_xs", "_law_here", "_law_there"] (sp_sums K) := by
  obtain ⟨f, fd, F, C⟩ := F
  refine ⟨f, fd, F.ok sc__law_sums (fun vs H Q E h => ?_) (fun cdv A outer s H vs Q E hr h => ?_), C⟩
  · obtain ⟨a, s, h, t, xs, rfl, _⟩ := h
    rfl
  · obtain ⟨a, s, h, t, xs, rfl, hX, hl, hs2, hs9, hh9, ht9, kk⟩ := h
    refine ⟨_, (pss_cons (ps_if (pt_cmpR op_eq (pv 0) pe_int (nomark _))
        (pss_cons (ps_set (i := 4) sc__law_sums.nd rfl (Or.inl rfl) (pe_op op_add (pe_op op_add pe_int (pe_op op_mod (pe_ix ix_list (pv 1) pe_int (fun _ _ => rfl)) pe_int)) (pe_op op_mul (pe_op op_mod (pe_ix ix_list (pv 1) pe_int (fun _ _ => rfl)) pe_int) pe_int)))
        (pss_one (ps_ret (pe_op op_mod (pe_op op_add (pe_op op_add (pe_op op_mul (pv 4) (pv 2)) (pe_op op_mul (pe_op op_mul (pe_op op_mod (pe_ix ix_list (pv 1) pe_int (fun _ _ => rfl)) pe_int) pe_int) (pv 3))) (pe_ix ix_list (pv 1) pe_int (fun _ _ => rfl))) pe_int))))
        pss_nil)
      (pss_cons (ps_set (i := 5) sc__law_sums.nd rfl (Or.inl rfl) (pe_op op_mul (pe_op op_mod (pe_ix ix_list (pv 1) pe_int (fun _ _ => rfl)) (pe_op op_fdiv (pv 0) pe_int)) pe_int))
      (pss_one (ps_ret (pe_op op_mod (pe_op op_add (pe_op op_add (pe_op op_mul (pe_op op_add pe_int (pe_op op_mul (pe_op op_mod (pe_ix ix_list (pv 1) pe_int (fun _ _ => rfl)) pe_int) pe_int)) (pv 2)) (pe_op op_mul (pv 5) (pv 3))) (pe_ix ix_list (pv 1) pe_int (fun _ _ => rfl))) (pv 0)))))), ?_⟩
    have ex : ∀ i : Nat, i < 15 → atI (nvs xs) (i : Int) = some (nv (tb xs i)) := fun i hi => at_k i rfl (by omega)
    unfold sumsF at kk
    refine ⟨_, rfl, rfl, _, rfl, ?_⟩
    refine if2 (fun h1 => ?_) (fun h1 => ?_)
    · have h1' : s = 9 := (nv_eq (b := 9)).mp h1
      rw [if_pos h1'] at kk
      refine ⟨_, rfl, a, _, _, _, rfl, rfl, hX, ex 10 (by omega), _, _, rfl, rfl, (by show (0 : Int) < 2; decide), _, _, rfl, rfl, _, rfl, a, _, _, _, rfl, rfl, hX, ex 11 (by omega), _, _, rfl, rfl, (by show (0 : Int) < 3; decide), _, _, rfl, rfl, .inr ⟨by decide, by decide⟩, _, _, rfl, rfl, ?_⟩
      refine ⟨_, rfl, _, rfl, _, _, rfl, rfl, .inr ⟨by omega, by omega⟩, _, rfl, a, _, _, _, rfl, rfl, hX, ex 12 (by omega), _, _, rfl, rfl, (by show (0 : Int) < 3; decide), _, _, rfl, rfl, .inr ⟨by decide, by decide⟩, _, rfl, _, _, rfl, rfl, .inr ⟨by omega, by omega⟩, _, _, rfl, rfl, _, rfl, a, _, _, _, rfl, rfl, hX, ex 13 (by omega), _, _, rfl, rfl, _, _, rfl, rfl, (by show (0 : Int) < 9; decide), ?_⟩
      exact kk
    · have h1' : ¬ s = 9 := fun e => h1 ((nv_eq (b := 9)).mpr e)
      rw [if_neg h1'] at kk
      have hdiv : 0 < s / 2 := Nat.div_pos hs2 (by omega)
      refine ⟨_, rfl, a, _, _, _, rfl, rfl, hX, ex 12 (by omega), _, rfl, _, _, rfl, rfl, ⟨by decide, by decide⟩, _, _, rfl, rfl, (by show (0 : Int) < (s : Int) / 2; omega), _, _, rfl, rfl, .inr ⟨by decide, by decide⟩, ?_⟩
      refine ⟨_, rfl, a, _, _, _, rfl, rfl, hX, ex 10 (by omega), _, _, rfl, rfl, (by show (0 : Int) < 4; decide), _, _, rfl, rfl, .inr ⟨by decide, by decide⟩, _, _, rfl, rfl, _, rfl, _, _, rfl, rfl, .inr ⟨by omega, by omega⟩, _, rfl, _, rfl, _, _, rfl, rfl, .inr ⟨by omega, by omega⟩, _, _, rfl, rfl, _, rfl, a, _, _, _, rfl, rfl, hX, ex 13 (by omega), _, _, rfl, rfl, _, rfl, _, _, rfl, rfl, (by show (0 : Int) < (s : Int); omega), ?_⟩
      exact kk

abbrev st__law_three : Stmt := top 46
theorem sc__law_three : FnScope ["_law_here", "_law_there"] ["_law_here", "_law_there"] (defScope st__law_three) := ⟨rfl, rfl, rfl, by decide +kernel, rfl, by decide +kernel, by decide +kernel⟩
def sp_three : Sp := fun vs H Q _ => ∃ (h t : Nat), vs = [nv h, nv t] ∧ Q (nv (threeF h t)) H
theorem has_three (F : FunC K mg "_law_three" 46 ["_law_here", "_law_there"]) : Has P w K mg base 1 "_law_three" ["_law_here", "_law_there"] sp_three := by
  obtain ⟨f, fd, F, C⟩ := F
  refine ⟨f, fd, F.ok sc__law_three (fun vs H Q E h => ?_) (fun cdv A outer s H vs Q E hr h => ?_), C⟩
  · obtain ⟨h, t, rfl, _⟩ := h
    rfl
  · obtain ⟨h, t, rfl, kk⟩ := h
    refine ⟨_, (pss_one (ps_ret (pe_op op_add (pe_op op_add (pe_op op_mul (pe_op op_mod (pe_op op_add (pe_op op_fdiv (pv 0) pe_int) (pe_op op_fdiv (pv 1) pe_int)) pe_int) pe_int) (pe_op op_mul (pe_op op_mod (pe_op op_add (pe_op op_fdiv (pv 0) pe_int) (pv 1)) pe_int) pe_int)) (pe_op op_mod (pv 0) pe_int)))), ?_⟩
    exact ⟨_, rfl, _, _, rfl, rfl, ⟨by decide, by decide⟩, _, rfl, _, _, rfl, rfl, ⟨by decide, by decide⟩, _, _, rfl, rfl, _, _, rfl, rfl, (by show (0 : Int) < 2; decide), _, _, rfl, rfl, .inr ⟨by decide, by decide⟩,
      _, rfl, _, _, rfl, rfl, ⟨by decide, by decide⟩, _, rfl, _, _, rfl, rfl, _, _, rfl, rfl, (by show (0 : Int) < 2; decide), _, _, rfl, rfl, .inr ⟨by decide, by decide⟩, _, _, rfl, rfl, _, rfl, _, _, rfl, rfl, (by show (0 : Int) < 2; decide), _, _, rfl, rfl, kk⟩

abbrev st__law_steps_down : Stmt := top 47
theorem sc__law_steps_down : FnScope ["_law_signs", "_law_here", "_law_there"] ["_law_signs", "_law_here", "_law_there"] (defScope st__law_steps_down) := ⟨rfl, rfl, rfl, by decide +kernel, rfl, by decide +kernel, by decide +kernel⟩
def sp_down : Sp := fun vs H Q _ => ∃ (s h t : Nat), vs = [nv s, nv h, nv t] ∧ 4 ≤ s ∧ Q (nv (downF s h t)) H
theorem has_down (F : FunC K mg "_law_steps_down" 47 ["_law_signs", "_law_here", "_law_there"]) (T : Bt mg) : Has P w K mg base 1 "_law_steps_down" ["_law_signs", "_law_here", "_law_there"] sp_down := by
  obtain ⟨f, fd, F, C⟩ := F
  refine ⟨f, fd, F.ok sc__law_steps_down (fun vs H Q E h => ?_) (fun cdv A outer s H vs Q E hr h => ?_), C⟩
  · obtain ⟨s, h, t, rfl, _⟩ := h
    rfl
  · obtain ⟨s, h, t, rfl, hs4, kk⟩ := h
    refine ⟨_, (pss_cons (ps_if (pt_cmpR op_lt (pv 1) pe_int (nomark _))
        (pss_one (ps_ret (pe_op op_mod (pe_op op_add (pv 1) (pe_callTy call_int1 (by rfl) T.int (by decide +kernel) (pa_cons (pe_cmpR op_eq (pv 2) pe_int (nomark _)) pa_nil))) pe_int)))
        pss_nil)
      (pss_cons (ps_if (PW.pt (pw_and (pt_cmpR op_lt (pv 1) (pe_op op_sub (pv 0) pe_int) (nomark _)) (pw_and1 (pt_cmpR op_eq (pv 2) (pe_op op_sub (pv 0) pe_int) (nomark _)))))
        (pss_one (ps_ret (pe_op op_add pe_int (pe_op op_mod (pe_op op_sub (pv 1) pe_int) (pe_op op_sub (pv 0) pe_int)))))
        pss_nil)
      (pss_one (ps_ret (pv 1))))), ?_⟩
    unfold downF at kk
    refine ⟨_, rfl, _, _, rfl, rfl, _, rfl, ?_⟩
    refine if2 (fun h1 => ?_) (fun h1 => ?_)
    · rw [if_pos (by omega)] at kk
      refine ⟨_, rfl, _, rfl, rfl, .inr ⟨_, rfl, _, _, rfl, rfl, _, _, rfl, rfl, (by show (0 : Int) < 2; decide), ?_⟩⟩
      refine asV kk (congrArg V.int ?_)
      by_cases q : t = 3
      · have e : decide (V.int (t : Int) = V.int 3) = true := decide_eq_true ((nv_eq (b := 3)).mpr q)
        show ((h : Int) + (if decide (V.int (t : Int) = V.int 3) = true then 1 else 0)) % 2 = _
        rw [e, if_pos q]
        rfl
      · have e : decide (V.int (t : Int) = V.int 3) = false := decide_eq_false fun z => q ((nv_eq (b := 3)).mp z)
        show ((h : Int) + (if decide (V.int (t : Int) = V.int 3) = true then 1 else 0)) % 2 = _
        rw [e, if_neg q]
        rfl
    · rw [if_neg (by omega)] at kk
      refine ⟨_, rfl, _, rfl, _, _, rfl, rfl, _, _, rfl, rfl, _, rfl, ?_⟩
      refine if2 (fun h2 => ?_) (fun h2 => ?_)
      · have h2 : (h : Int) < (s : Int) - 1 := h2
        refine ⟨_, rfl, _, rfl, _, _, rfl, rfl, rfl, _, rfl, ?_⟩
        refine if2 (fun h3 => ?_) (fun h3 => ?_)
        · have h3' : t = s - 1 := by have := vi.mp h3; omega
          rw [if_pos ⟨by omega, h3'⟩] at kk
          refine ⟨_, rfl, _, _, rfl, rfl, _, rfl, _, _, rfl, rfl, _, _, rfl, rfl, (by show (0 : Int) < (s : Int) - 3; omega), _, _, rfl, rfl, ?_⟩
          refine asV kk (congrArg V.int ?_)
          show (2 : Int) + ((h : Int) - 1) % ((s : Int) - 3) = _
          rw [show (h : Int) - 1 = ((h - 1 : Nat) : Int) by omega, show (s : Int) - 3 = ((s - 3 : Nat) : Int) by omega]
          rfl
        · have h3' : ¬ t = s - 1 := fun e => h3 (vi.mpr (by omega))
          rw [if_neg (fun q => h3' q.2)] at kk
          exact ⟨_, rfl, kk⟩
      · have h2 : ¬ (h : Int) < (s : Int) - 1 := h2
        rw [if_neg (fun q => by omega)] at kk
        refine iteF ?_
        exact ⟨_, rfl, kk⟩

abbrev st__law_flip : Stmt := top 48
theorem sc__law_flip : FnScope ["_law_xs", "_law_word_here", "_law_at", "_law_others", "_law_due"] ["_law_xs", "_law_word_here"] (defScope st__law_flip) := ⟨rfl, rfl, rfl, by decide +kernel, rfl, by decide +kernel, by decide +kernel⟩
def sp_flip (K : PySem.W.Frag) : Sp := fun vs H Q _ => ∃ (a b : Addr) (xs ws : List Nat), vs = [.ref a, .ref b] ∧ SqL K H a (nvs xs) ∧ 15 ≤ xs.length ∧ SqL K H b (nvs ws) ∧ ws.length = 4 ∧ Pure H (nv (flipF (tb xs 10) (tb xs 11) ws)) Q
theorem has_flip (F : FunC K mg "_law_flip" 48 ["_law_xs", "_law_word_here"]) (T : Bt mg) : Has P w K mg base 1 "_law_flip" ["_law_xs", "_law_word_here"] (sp_flip K) := by
  obtain ⟨f, fd, F, C⟩ := F
  refine ⟨f, fd, F.ok sc__law_flip (fun vs H Q E h => ?_) (fun cdv A outer s H vs Q E hr h => ?_), C⟩
  · obtain ⟨a, b, xs, ws, rfl, _⟩ := h
    rfl
  · obtain ⟨a, b, xs, ws, rfl, hX, hl, hW, hw4, kk⟩ := h
    refine ⟨_, (pss_cons (ps_set (i := 2) sc__law_flip.nd rfl (Or.inl rfl) (pe_op op_add pe_int (pe_op op_mod (pe_ix ix_list (pv 0) pe_int (fun _ _ => rfl)) pe_int)))
      (pss_cons (ps_set (i := 3) sc__law_flip.nd rfl (Or.inl rfl) (pe_op op_cat (pe_slice sl_list (pv 1) po_none (po_some (pv 2))) (pe_slice sl_list (pv 1) (po_some (pe_op op_add (pv 2) pe_int)) po_none)))
      (pss_cons (ps_set (i := 4) sc__law_flip.nd rfl (Or.inl rfl) (pe_ix ix_list (pe_lst (pa_cons (pe_lst (pa_cons pe_int (pa_cons pe_int (pa_cons pe_int pa_nil)))) (pa_cons (pe_lst (pa_cons pe_int (pa_cons pe_int (pa_cons pe_int pa_nil)))) pa_nil))) (pe_op op_mod (pe_ix ix_list (pv 0) pe_int (fun _ _ => rfl)) pe_int) (fun _ _ => rfl)))
      (pss_one (ps_ret (pe_op op_mod (pe_op op_add (pe_ix ix_list (pv 1) (pv 2) (fun _ _ => rfl)) (pe_callTy call_int1 (by rfl) T.int (by decide +kernel) (pa_cons (pe_cmpR (op_eqD hr.units) (pv 3) (pv 4) (nomark _)) pa_nil))) pe_int)))))), ?_⟩
    have ex : ∀ i : Nat, i < 15 → atI (nvs xs) (i : Int) = some (nv (tb xs i)) := fun i hi => at_k i rfl (by omega)
    have hat : 1 + tb xs 10 % 2 < ws.length := by omega
    refine ⟨_, rfl, a, _, _, _, rfl, rfl, hX, ex 10 (by omega), _, _, rfl, rfl, (by show (0 : Int) < 2; decide), _, _, rfl, rfl, ?_⟩
    refine ⟨_, rfl, _, rfl, _, rfl, b, _, rfl, hW, fun p hp => ?_⟩
    have s1 := sNew (o := .lst (cutV (nvs ws) none (some ((1 : Int) + ((tb xs 10 : Nat) : Int) % 2)))) hp
    refine ⟨_, rfl, _, rfl, _, _, rfl, rfl, _, rfl, b, _, rfl, s1.seq hW, fun q hq => ?_⟩
    have npq : p ≠ q := fun e => by rw [← e, upd_same] at hq; cases hq
    have hq' : H q = none := s1.free hq
    have c1 : cutV (nvs ws) none (some ((1 : Int) + ((tb xs 10 : Nat) : Int) % 2)) = nvs (ws.take (1 + tb xs 10 % 2)) := by
      unfold cutV
      rw [show ((1 : Int) + ((tb xs 10 : Nat) : Int) % 2) = ((1 + tb xs 10 % 2 : Nat) : Int) from rfl, HT.sIx_nat, HT.sIx_none, List.drop_zero, Nat.sub_zero, nvs_len, Nat.min_eq_left (by omega), ← List.map_take]
    have c2 : cutV (nvs ws) (some ((1 : Int) + ((tb xs 10 : Nat) : Int) % 2 + 1)) none = nvs (ws.drop (1 + tb xs 10 % 2 + 1)) := by
      unfold cutV
      rw [show ((1 : Int) + ((tb xs 10 : Nat) : Int) % 2 + 1) = ((1 + tb xs 10 % 2 + 1 : Nat) : Int) from rfl, HT.sIx_nat, HT.sIx_none, nvs_len, Nat.min_eq_left (by omega), List.take_of_length_le (by rw [List.length_drop, nvs_len]; omega), ← List.map_drop]
    refine ⟨p, q, _, _, rfl, rfl, by rw [upd_ne npq, upd_same], upd_same, ?_, fun r hr' => ?_⟩
    · rw [c1, c2, nvs_len, nvs_len, List.length_take, List.length_drop]
      exact Nat.le_of_lt (small_line (by omega))
    · have s2 := s1.trans (sNew (o := .lst (cutV (nvs ws) (some ((1 : Int) + ((tb xs 10 : Nat) : Int) % 2 + 1)) none)) hq)
      have s3 := s2.trans (sNew (o := .lst (cutV (nvs ws) none (some ((1 : Int) + ((tb xs 10 : Nat) : Int) % 2)) ++ cutV (nvs ws) (some ((1 : Int) + ((tb xs 10 : Nat) : Int) % 2 + 1)) none)) hr')
      have hR : (L2.upd (L2.upd (L2.upd H p (.lst (cutV (nvs ws) none (some ((1 : Int) + ((tb xs 10 : Nat) : Int) % 2))))) q (.lst (cutV (nvs ws) (some ((1 : Int) + ((tb xs 10 : Nat) : Int) % 2 + 1)) none))) r (.lst (cutV (nvs ws) none (some ((1 : Int) + ((tb xs 10 : Nat) : Int) % 2)) ++ cutV (nvs ws) (some ((1 : Int) + ((tb xs 10 : Nat) : Int) % 2 + 1)) none))) r = some (.lst (nvs (ws.take (1 + tb xs 10 % 2) ++ ws.drop (1 + tb xs 10 % 2 + 1)))) := by
        rw [upd_same, c1, c2, nvs_app]
      generalize L2.upd (L2.upd (L2.upd H p (.lst (cutV (nvs ws) none (some ((1 : Int) + ((tb xs 10 : Nat) : Int) % 2))))) q (.lst (cutV (nvs ws) (some ((1 : Int) + ((tb xs 10 : Nat) : Int) % 2 + 1)) none))) r (.lst (cutV (nvs ws) none (some ((1 : Int) + ((tb xs 10 : Nat) : Int) % 2)) ++ cutV (nvs ws) (some ((1 : Int) + ((tb xs 10 : Nat) : Int) % 2 + 1)) none)) = H3 at s3 hR
      refine ⟨by show 3 ≤ sizeLine; decide, fun d1 hd1 => ⟨by show 3 ≤ sizeLine; decide, fun d2 hd2 => ⟨by show 2 ≤ sizeLine; decide, fun d hd => ?_⟩⟩⟩
      have n12 : d1 ≠ d2 := fun e => by rw [← e, upd_same] at hd2; cases hd2
      have n1d : d1 ≠ d := ne_of_none (by rw [upd_ne n12, upd_same]) hd
      have n2d : d2 ≠ d := ne_of_none upd_same hd
      have hd2' : H3 d2 = none := by rw [upd_ne (Ne.symm n12)] at hd2; exact hd2
      have hd' : H3 d = none := by rw [upd_ne (Ne.symm n2d), upd_ne (Ne.symm n1d)] at hd; exact hd
      have s4 : Same H3 (L2.upd (L2.upd (L2.upd H3 d1 (.lst [.int 0, .int 1, .int 0])) d2 (.lst [.int 1, .int 0, .int 1])) d (.lst [.ref d1, .ref d2])) := sUp (sUp (sNew hd1) hd2') hd'
      have g1 : (L2.upd (L2.upd (L2.upd H3 d1 (.lst [.int 0, .int 1, .int 0])) d2 (.lst [.int 1, .int 0, .int 1])) d (.lst [.ref d1, .ref d2])) d1 = some (.lst (nvs [0, 1, 0])) := by rw [upd_ne n1d, upd_ne n12, upd_same]; rfl
      have g2 : (L2.upd (L2.upd (L2.upd H3 d1 (.lst [.int 0, .int 1, .int 0])) d2 (.lst [.int 1, .int 0, .int 1])) d (.lst [.ref d1, .ref d2])) d2 = some (.lst (nvs [1, 0, 1])) := by rw [upd_ne n2d, upd_same]; rfl
      have g3 : (L2.upd (L2.upd (L2.upd H3 d1 (.lst [.int 0, .int 1, .int 0])) d2 (.lst [.int 1, .int 0, .int 1])) d (.lst [.ref d1, .ref d2])) d = some (.lst [.ref d1, .ref d2]) := upd_same
      generalize L2.upd (L2.upd (L2.upd H3 d1 (.lst [.int 0, .int 1, .int 0])) d2 (.lst [.int 1, .int 0, .int 1])) d (.lst [.ref d1, .ref d2]) = H4 at s4 g1 g2 g3
      have s5 := s3.trans s4
      have due : ∃ (de : Addr) (dd : List Nat), atI [V.ref d1, V.ref d2] (((tb xs 11 : Nat) : Int) % 2) = some (.ref de) ∧ H4 de = some (.lst (nvs dd)) ∧ dd = [[0, 1, 0], [1, 0, 1]].getD (tb xs 11 % 2) [] := by
        have hm : tb xs 11 % 2 = 0 ∨ tb xs 11 % 2 = 1 := by omega
        rcases hm with hm | hm
        · exact ⟨d1, _, at_of (j := 0) (show ((tb xs 11 % 2 : Nat) : Int) = 0 by rw [hm]; rfl) rfl, g1, by rw [hm]; rfl⟩
        · exact ⟨d2, _, at_of (j := 1) (show ((tb xs 11 % 2 : Nat) : Int) = 1 by rw [hm]; rfl) rfl, g2, by rw [hm]; rfl⟩
      obtain ⟨de, dd, hat2, hde, edd⟩ := due
      refine ⟨_, rfl, a, _, _, _, rfl, rfl, s5.seq hX, ex 11 (by omega), _, _, rfl, rfl, (by show (0 : Int) < 2; decide), d, _, _, _, rfl, rfl, SqL.of g3, hat2, ?_⟩
      have em : ∀ l : List Nat, nvs l = (l.map fun (b : Nat) => (b : Int)).map V.int := fun l => by rw [List.map_map]; rfl
      refine ⟨_, rfl, _, rfl, b, _, _, _, rfl, rfl, s5.seq hW, at_k (1 + tb xs 10 % 2) rfl hat, _, rfl, _, rfl, _, _, dp_list (by rw [← em]; exact SqL.of (s4 _ _ hR)), dp_list (by rw [← em]; exact SqL.of hde), shaped_list _, shaped_list _, .inr ⟨_, rfl, _, _, rfl, rfl, _, _, rfl, rfl, (by show (0 : Int) < 2; decide), ?_⟩⟩
      have k5 := kk H4 s5
      unfold flipF at k5
      refine asV k5 (congrArg V.int ?_)
      have inj : ∀ l m : List Nat, (l.map fun (b : Nat) => (b : Int)) = (m.map fun (b : Nat) => (b : Int)) ↔ l = m := fun l m => List.map_inj_right (fun x y h => by have h : (x : Int) = (y : Int) := h; omega)
      show (((tb ws (1 + tb xs 10 % 2) : Nat) : Int) + (if PyData.eqv (.list (dl ((ws.take (1 + tb xs 10 % 2) ++ ws.drop (1 + tb xs 10 % 2 + 1)).map fun (b : Nat) => (b : Int)))) (.list (dl (dd.map fun (b : Nat) => (b : Int)))) = true then 1 else 0)) % 2 = _
      rw [eqv_list, ← edd]
      by_cases e : ws.take (1 + tb xs 10 % 2) ++ ws.drop (1 + tb xs 10 % 2 + 1) = dd
      · rw [if_pos e, decide_eq_true ((inj _ _).mpr e)]
        rfl
      · rw [if_neg e, decide_eq_false (fun z => e ((inj _ _).mp z))]
        rfl
end
end K52
set_option Elab.async false
set_option maxRecDepth 100000
namespace K52
open PySem L2
theorem atI_last0 {ws : List Nat} (h : ws ≠ []) : atI (nvs ws) (-1) = some (nv (ws.getLastD 0)) := by
  refine atI_m1 ?_
  rw [List.getLast?_map, List.getLast?_eq_some_getLast h, List.getLastD_eq_getLast?, List.getLast?_eq_some_getLast h]
  rfl
theorem atI_head0 {ws : List Nat} (h : ws ≠ []) : atI (nvs ws) 0 = some (nv (ws.headD 0)) := by
  cases ws with
  | nil => exact absurd rfl h
  | cons a l => exact at_of (j := 0) rfl rfl
theorem headD_mem {ws : List Nat} (h : ws ≠ []) : ws.headD 0 ∈ ws := by
  cases ws with
  | nil => exact absurd rfl h
  | cons a l => exact List.mem_cons_self
theorem lastD_mem {ws : List Nat} (h : ws ≠ []) : ws.getLastD 0 ∈ ws := by
  rw [List.getLastD_eq_getLast?, List.getLast?_eq_some_getLast h]
  exact List.getLast_mem h
theorem hereF_mem {ws : List Nat} {x : Nat} (h : ws ≠ []) : hereF x ws ∈ ws := by
  unfold hereF
  split
  · exact lastD_mem h
  · exact headD_mem h
theorem thereF_mem {ws : List Nat} {x : Nat} (h : ws ≠ []) : thereF x ws ∈ ws := by
  unfold thereF
  split
  · exact headD_mem h
  · exact lastD_mem h
section
variable {P : Program} {w : World} {K : PySem.W.Frag} {mg : Str → Option Value} {base : Heap}
abbrev st__law_told : Stmt := top 49
theorem sc__law_told : FnScope ["_law_kind", "_law_signs", "_law_xs", "_law_word_here", "_law_here", "_law_there"] ["_law_kind", "_law_signs", "_law_xs", "_law_word_here"] (defScope st__law_told) := ⟨rfl, rfl, rfl, by decide +kernel, rfl, by decide +kernel, by decide +kernel⟩
def sp_told (K : PySem.W.Frag) : Sp := fun vs H Q _ => ∃ (a b : Addr) (kind s : Nat) (xs ws : List Nat), vs = [nv kind, nv s, .ref a, .ref b] ∧ SqL K H a (nvs xs) ∧ 15 ≤ xs.length ∧ SqL K H b (nvs ws) ∧ ws ≠ [] ∧ (∀ d ∈ ws, d ≤ 9) ∧ 2 ≤ s ∧ s ≤ 9 ∧ (kind = 3 → ws.length = 4) ∧ (kind = 2 → 3 ≤ s) ∧ (kind = 6 → 4 ≤ s) ∧ Pure H (nv (toldF kind s (tb xs 10) (tb xs 11) (tb xs 12) (tb xs 13) (tb xs 14) ws)) Q
theorem has_told (F : FunC K mg "_law_told" 49 ["_law_kind", "_law_signs", "_law_xs", "_law_word_here"]) (T : Bt mg) (h__law_flip : Has P w K mg base 1 "_law_flip" ["_law_xs", "_law_word_here"] (sp_flip K)) (h__law_tracks : Has P w K mg base 1 "_law_tracks" ["_law_signs", "_law_xs", "_law_here", "_law_there"] (sp_tracks K)) (h__law_marks : Has P w K mg base 1 "_law_marks" ["_law_signs", "_law_xs", "_law_here", "_law_there"] (sp_marks K)) (h__law_sums : Has P w K mg base 1 "_law_sums" ["_law_signs", "_law_xs", "_law_here", "_law_there"] (sp_sums K)) (h__law_three : Has P w K mg base 1 "_law_three" ["_law_here", "_law_there"] sp_three) (h__law_steps_down : Has P w K mg base 1 "_law_steps_down" ["_law_signs", "_law_here", "_law_there"] sp_down) : Has P w K mg base 2 "_law_told" ["_law_kind", "_law_signs", "_law_xs", "_law_word_here"] (sp_told K) := by
  obtain ⟨_, _, G__law_flip, C__law_flip⟩ := h__law_flip
  obtain ⟨_, _, G__law_tracks, C__law_tracks⟩ := h__law_tracks
  obtain ⟨_, _, G__law_marks, C__law_marks⟩ := h__law_marks
  obtain ⟨_, _, G__law_sums, C__law_sums⟩ := h__law_sums
  obtain ⟨_, _, G__law_three, C__law_three⟩ := h__law_three
  obtain ⟨_, _, G__law_steps_down, C__law_steps_down⟩ := h__law_steps_down
  obtain ⟨f, fd, F, C⟩ := F
  refine ⟨f, fd, F.ok sc__law_told (fun vs H Q E h => ?_) (fun cdv A outer s H vs Q E hr h => ?_), C⟩
  · obtain ⟨a, b, kind, s, xs, ws, rfl, _⟩ := h
    rfl
  · obtain ⟨a, b, kind, s, xs, ws, rfl, hX, hl, hW, hne, hw9, hs2, hs9, c3, c2, c6, kk⟩ := h
    refine ⟨_, (pss_cons (ps_if (pt_cmpR op_eq (pv 0) pe_int (nomark _))
        (pss_one (ps_ret (pe_call G__law_flip hr rfl C__law_flip.mg C__law_flip.kp C__law_flip.b .nil pass0 (pa_cons (pv 2) (pa_cons (pv 3) pa_nil)))))
        pss_nil)
      (pss_cons (ps_set (i := 4) sc__law_told.nd rfl (Or.inl rfl) (pe_ix ix_list (pv 3) pe_int (fun _ _ => rfl)))
      (pss_cons (ps_set (i := 5) sc__law_told.nd rfl (Or.inl rfl) (pe_ix ix_list (pv 3) (pe_un un_neg pe_int) (fun _ _ => rfl)))
      (pss_cons (ps_if (pt_cmpR op_eq (pe_op op_mod (pe_ix ix_list (pv 2) pe_int (fun _ _ => rfl)) pe_int) pe_int (nomark _))
        (pss_cons (ps_set (i := 4) sc__law_told.nd rfl (Or.inl rfl) (pe_ix ix_list (pv 3) (pe_un un_neg pe_int) (fun _ _ => rfl)))
        (pss_one (ps_set (i := 5) sc__law_told.nd rfl (Or.inl rfl) (pe_ix ix_list (pv 3) pe_int (fun _ _ => rfl)))))
        pss_nil)
      (pss_cons (ps_if (pt_cmpR op_eq (pv 0) pe_int (nomark _))
        (pss_one (ps_ret (pe_call G__law_tracks hr rfl C__law_tracks.mg C__law_tracks.kp C__law_tracks.b .nil pass0 (pa_cons (pv 1) (pa_cons (pv 2) (pa_cons (pv 4) (pa_cons (pv 5) pa_nil)))))))
        pss_nil)
      (pss_cons (ps_if (pt_cmpR op_eq (pv 0) pe_int (nomark _))
        (pss_one (ps_ret (pe_call G__law_marks hr rfl C__law_marks.mg C__law_marks.kp C__law_marks.b .nil pass0 (pa_cons (pv 1) (pa_cons (pv 2) (pa_cons (pv 4) (pa_cons (pv 5) pa_nil)))))))
        pss_nil)
      (pss_cons (ps_if (pt_cmpR op_eq (pv 0) pe_int (nomark _))
        (pss_one (ps_ret (pe_call G__law_sums hr rfl C__law_sums.mg C__law_sums.kp C__law_sums.b .nil pass0 (pa_cons (pv 1) (pa_cons (pv 2) (pa_cons (pv 4) (pa_cons (pv 5) pa_nil)))))))
        pss_nil)
      (pss_cons (ps_if (pt_cmpR op_eq (pv 0) pe_int (nomark _))
        (pss_one (ps_ret (pe_call G__law_three hr rfl C__law_three.mg C__law_three.kp C__law_three.b .nil pass0 (pa_cons (pv 4) (pa_cons (pv 5) pa_nil)))))
        pss_nil)
      (pss_cons (ps_if (pt_cmpR op_eq (pv 0) pe_int (nomark _))
        (pss_one (ps_ret (pe_call G__law_steps_down hr rfl C__law_steps_down.mg C__law_steps_down.kp C__law_steps_down.b .nil pass0 (pa_cons (pv 1) (pa_cons (pv 4) (pa_cons (pv 5) pa_nil))))))
        pss_nil)
      (pss_one (ps_ret (pv 4)))))))))))), ?_⟩
    unfold toldF at kk
    refine ⟨_, rfl, rfl, _, rfl, ?_⟩
    refine if2 (fun h3 => ?_) (fun h3 => ?_)
    · have h3' : kind = 3 := (nv_eq (b := 3)).mp h3
      rw [if_pos h3'] at kk
      exact ⟨_, rfl, _, rfl, a, b, xs, ws, rfl, hX, hl, hW, c3 h3', kk⟩
    · have h3' : ¬ kind = 3 := fun e => h3 ((nv_eq (b := 3)).mpr e)
      rw [if_neg h3'] at kk
      have ah := atI_head0 hne
      have al := atI_last0 hne
      have hh : hereF (tb xs 14) ws ≤ 9 := hw9 _ (hereF_mem hne)
      have ht : thereF (tb xs 14) ws ≤ 9 := hw9 _ (thereF_mem hne)
      refine ⟨_, rfl, b, _, _, _, rfl, rfl, hW, ah, ?_⟩
      refine ⟨_, rfl, _, rfl, b, _, _, _, rfl, rfl, hW, al, ?_⟩
      refine ⟨_, rfl, a, _, _, _, rfl, rfl, hX, at_k 14 rfl (by omega), _, _, rfl, rfl, (by show (0 : Int) < 2; decide), rfl, _, rfl, ?_⟩
      refine if2 (fun h14 => ?_) (fun h14 => ?_)
      · have h14' : tb xs 14 % 2 = 1 := (nv_eq (b := 1)).mp h14
        refine ⟨_, rfl, _, rfl, b, _, _, _, rfl, rfl, hW, al, ?_⟩
        refine ⟨_, rfl, b, _, _, _, rfl, rfl, hW, ah, ?_⟩
        rw [show ws.headD 0 = thereF (tb xs 14) ws by unfold thereF; rw [if_pos h14'], show ws.getLastD 0 = hereF (tb xs 14) ws by unfold hereF; rw [if_pos h14']]
        generalize hereF (tb xs 14) ws = hv at kk hh ⊢
        generalize thereF (tb xs 14) ws = tv at kk ht ⊢
        refine ⟨_, rfl, rfl, _, rfl, if2 (fun g => ?_) (fun g => ?_)⟩
        · have g' : kind = 1 := (nv_eq (b := 1)).mp g
          rw [if_pos g'] at kk
          exact ⟨_, rfl, _, rfl, _, rfl, _, rfl, a, s, hv, tv, xs, rfl, hX, hl, hs9, kk⟩
        · rw [if_neg fun e => g ((nv_eq (b := 1)).mpr e)] at kk
          refine ⟨_, rfl, rfl, _, rfl, if2 (fun g => ?_) (fun g => ?_)⟩
          · have g' : kind = 2 := (nv_eq (b := 2)).mp g
            rw [if_pos g'] at kk
            exact ⟨_, rfl, _, rfl, _, rfl, _, rfl, a, s, hv, tv, xs, rfl, hX, hl, c2 g', hs9, kk H (Same.refl H)⟩
          · rw [if_neg fun e => g ((nv_eq (b := 2)).mpr e)] at kk
            refine ⟨_, rfl, rfl, _, rfl, if2 (fun g => ?_) (fun g => ?_)⟩
            · have g' : kind = 4 := (nv_eq (b := 4)).mp g
              rw [if_pos g'] at kk
              exact ⟨_, rfl, _, rfl, _, rfl, _, rfl, a, s, hv, tv, xs, rfl, hX, hl, hs2, hs9, hh, ht, kk H (Same.refl H)⟩
            · rw [if_neg fun e => g ((nv_eq (b := 4)).mpr e)] at kk
              refine ⟨_, rfl, rfl, _, rfl, if2 (fun g => ?_) (fun g => ?_)⟩
              · have g' : kind = 5 := (nv_eq (b := 5)).mp g
                rw [if_pos g'] at kk
                exact ⟨_, rfl, _, rfl, hv, tv, rfl, kk H (Same.refl H)⟩
              · rw [if_neg fun e => g ((nv_eq (b := 5)).mpr e)] at kk
                refine ⟨_, rfl, rfl, _, rfl, if2 (fun g => ?_) (fun g => ?_)⟩
                · have g' : kind = 6 := (nv_eq (b := 6)).mp g
                  rw [if_pos g'] at kk
                  exact ⟨_, rfl, _, rfl, _, rfl, s, hv, tv, rfl, c6 g', kk H (Same.refl H)⟩
                · rw [if_neg fun e => g ((nv_eq (b := 6)).mpr e)] at kk
                  exact ⟨_, rfl, kk H (Same.refl H)⟩
      · have h14' : ¬ tb xs 14 % 2 = 1 := fun e => h14 ((nv_eq (b := 1)).mpr e)
        rw [show ws.headD 0 = hereF (tb xs 14) ws by unfold hereF; rw [if_neg h14'], show ws.getLastD 0 = thereF (tb xs 14) ws by unfold thereF; rw [if_neg h14']]
        generalize hereF (tb xs 14) ws = hv at kk hh ⊢
        generalize thereF (tb xs 14) ws = tv at kk ht ⊢
        refine ⟨_, rfl, rfl, _, rfl, if2 (fun g => ?_) (fun g => ?_)⟩
        · have g' : kind = 1 := (nv_eq (b := 1)).mp g
          rw [if_pos g'] at kk
          exact ⟨_, rfl, _, rfl, _, rfl, _, rfl, a, s, hv, tv, xs, rfl, hX, hl, hs9, kk⟩
        · rw [if_neg fun e => g ((nv_eq (b := 1)).mpr e)] at kk
          refine ⟨_, rfl, rfl, _, rfl, if2 (fun g => ?_) (fun g => ?_)⟩
          · have g' : kind = 2 := (nv_eq (b := 2)).mp g
            rw [if_pos g'] at kk
            exact ⟨_, rfl, _, rfl, _, rfl, _, rfl, a, s, hv, tv, xs, rfl, hX, hl, c2 g', hs9, kk H (Same.refl H)⟩
          · rw [if_neg fun e => g ((nv_eq (b := 2)).mpr e)] at kk
            refine ⟨_, rfl, rfl, _, rfl, if2 (fun g => ?_) (fun g => ?_)⟩
            · have g' : kind = 4 := (nv_eq (b := 4)).mp g
              rw [if_pos g'] at kk
              exact ⟨_, rfl, _, rfl, _, rfl, _, rfl, a, s, hv, tv, xs, rfl, hX, hl, hs2, hs9, hh, ht, kk H (Same.refl H)⟩
            · rw [if_neg fun e => g ((nv_eq (b := 4)).mpr e)] at kk
              refine ⟨_, rfl, rfl, _, rfl, if2 (fun g => ?_) (fun g => ?_)⟩
              · have g' : kind = 5 := (nv_eq (b := 5)).mp g
                rw [if_pos g'] at kk
                exact ⟨_, rfl, _, rfl, hv, tv, rfl, kk H (Same.refl H)⟩
              · rw [if_neg fun e => g ((nv_eq (b := 5)).mpr e)] at kk
                refine ⟨_, rfl, rfl, _, rfl, if2 (fun g => ?_) (fun g => ?_)⟩
                · have g' : kind = 6 := (nv_eq (b := 6)).mp g
                  rw [if_pos g'] at kk
                  exact ⟨_, rfl, _, rfl, _, rfl, s, hv, tv, rfl, c6 g', kk H (Same.refl H)⟩
                · rw [if_neg fun e => g ((nv_eq (b := 6)).mpr e)] at kk
                  exact ⟨_, rfl, kk H (Same.refl H)⟩
end
end K52
set_option Elab.async false
set_option maxRecDepth 100000
namespace K52
open PySem L2
section
variable {P : Program} {w : World} {K : PySem.W.Frag} {mg : Str → Option Value} {base : Heap}
abbrev st__law_seen : Stmt := top 52
theorem sc__law_seen : FnScope ["_law_core_here", "_law_many", "_law_low_here", "_law_word_here", "_law_at", "_law_j"] ["_law_core_here", "_law_many", "_law_low_here", "_law_word_here"] (defScope st__law_seen) := ⟨rfl, rfl, rfl, by decide +kernel, rfl, by decide +kernel, by decide +kernel⟩
def sp_seen (K : PySem.W.Frag) : Sp := fun vs H Q _ => ∃ (c d : Addr) (s m a : Nat) (low : Int) (L W : List Nat), vs = [.ref c, nv m, .int (low - a), .ref d] ∧ RuleAt K H c s low L ∧ L.length = s ^ m ∧ s ≤ 9 ∧ m ≤ 1000 ∧ SqL K H d (nvs W) ∧ a + m ≤ W.length ∧ (∀ d ∈ W, d < s) ∧ Q (nv (tb L (win s (fun j => tb W (a + j)) m))) H
theorem has_seen (F : FunC K mg "_law_seen" 52 ["_law_core_here", "_law_many", "_law_low_here", "_law_word_here"]) (T : Bt mg) : Has P w K mg base 1 "_law_seen" ["_law_core_here", "_law_many", "_law_low_here", "_law_word_here"] (sp_seen K) := by
  obtain ⟨f, fd, F, C⟩ := F
  refine ⟨f, fd, F.ok sc__law_seen (fun vs H Q E h => ?_) (fun cdv A outer s H vs Q E hr h => ?_), C⟩
  · obtain ⟨c, d, s, m, a, low, L, W, rfl, _⟩ := h
    rfl
  · obtain ⟨c, d, s, m, a, low, L, W, rfl, ⟨t, r1, r2⟩, hl, hs9, hm, hW, hal, hd, kk⟩ := h
    refine ⟨_, (pss_cons (ps_set (i := 4) sc__law_seen.nd rfl (Or.inl rfl) pe_int)
      (pss_cons (ps_for PassesOwn.never rfl (pi_range1 (by rfl) T.range (pa_cons (pv 1) pa_nil)) (pg_name (i := 5) sc__law_seen.nd rfl (Or.inl rfl))
        (pss_one (ps_set (i := 4) sc__law_seen.nd rfl (Or.inl rfl) (pe_op op_add (pe_op op_mul (pv 4) (pe_ix ix_tup (pv 0) pe_int (fun _ _ => rfl))) (pe_ix ix_list (pv 3) (pe_op op_sub (pe_op op_add (pe_ix ix_tup (pv 0) pe_int (fun _ _ => rfl)) (pv 5)) (pv 2)) (fun _ _ => rfl))))))
      (pss_one (ps_ret (pe_ix ix_tup (pe_ix ix_tup (pv 0) pe_int (fun _ _ => rfl)) (pv 4) (fun _ _ => rfl)))))), ?_⟩
    refine ⟨_, rfl, _, rfl, by omega, by omega, for_range0 (n := m) (fun i σ H' => ∃ u, σ = [some (.ref c), some (nv m), some (.int (low - a)), some (.ref d), some (nv (win s (fun j => tb W (a + j)) i)), u] ∧ H' = H) ⟨none, rfl, rfl⟩ ?_ ?_⟩
    · rintro i σ H' hi ⟨u, rfl, rfl⟩
      refine ⟨_, rfl, _, rfl, c, _, _, _, rfl, rfl, r1, rfl, _, _, rfl, rfl, .inr ⟨by omega, by omega⟩, ?_⟩
      refine ⟨_, rfl, _, rfl, c, _, _, _, rfl, rfl, r1, rfl, _, rfl, _, _, rfl, rfl, _, rfl, _, _, rfl, rfl, d, _, _, _, rfl, rfl, hW, at_k (a + i) (by omega) (by omega), _, _, rfl, rfl, ?_⟩
      exact ⟨some (nv i), rfl, rfl⟩
    · rintro σ H' ⟨u, rfl, rfl⟩
      have hlt : win s (fun j => tb W (a + j)) m < s ^ m := win_lt s m fun i hi => by
        have : tb W (a + i) ∈ W := by
          unfold tb
          rw [List.getD_eq_getElem?_getD, List.getElem?_eq_getElem (by omega)]
          exact List.getElem_mem _
        exact hd _ this
      exact ⟨_, rfl, c, _, _, _, rfl, rfl, r1, rfl, _, rfl, t, _, _, _, rfl, rfl, r2, at_k _ rfl (by omega), kk⟩

abbrev st__law_wide : Stmt := top 53
theorem sc__law_wide : FnScope ["_law_core_here", "_law_many", "_law_cell", "_law_most", "_law_ahead", "_law_behind", "_law_low_here", "_law_size", "_law_table", "_law_k"] ["_law_core_here", "_law_many", "_law_cell"] (defScope st__law_wide) := ⟨rfl, rfl, rfl, by decide +kernel, rfl, by decide +kernel, by decide +kernel⟩
def mostL : List Nat := [6, 4, 3, 3, 3, 2, 2, 2]
def sp_wide (K : PySem.W.Frag) : Sp := fun vs H Q _ => ∃ (c : Addr) (s m : Nat) (cell low : Int) (L : List Nat), vs = [.ref c, nv m, .int cell] ∧ RuleAt K H c s low L ∧ L.length = s ^ m ∧ 2 ≤ s ∧ s ≤ 9 ∧ m ≤ tb mostL (s - 2) ∧
  ∀ (a b : Nat), a + m + b ≤ tb mostL (s - 2) → NewR K H s (low - a) (wideT L s m a b) Q
theorem mostL_le (k : Nat) : tb mostL k ≤ 6 := by
  by_cases h : k < 8
  · have : ∀ k, k < 8 → tb mostL k ≤ 6 := by decide
    exact this k h
  · have : tb mostL k = 0 := by
      unfold tb
      rw [List.getD_eq_getElem?_getD, List.getElem?_eq_none (by simpa [mostL] using h)]
      rfl
    omega
theorem asG {α β γ : Type} {g : V → α → β → γ → Prop} {v v1 : V} {x : α} {y : β} {z : γ} (e : v = v1) (h : g v1 x y z) : g v x y z := e ▸ h
theorem mostL_pow : ∀ s, s ≤ 9 → 2 ≤ s → s ^ tb mostL (s - 2) ≤ 256 := by decide
theorem wide_word {L : List Nat} {s m a b k : Nat} (hs : 0 < s) (hk : k < s ^ (a + m + b)) : tb L (win s (fun j => tb (wordN s (a + m + b) k) (a + j)) m) = tb L (k / s ^ b % s ^ m) := by
  have h := wide_win (T := L) (m := m) (a := a) (b := b) hs (z := fun i => k / s ^ (a + m + b - 1 - i) % s) (fun i _ => Nat.mod_lt _ hs)
  rw [win_word s _ k hs hk] at h
  unfold wideT at h
  rw [tb_map hk] at h
  rw [h]
  congr 1
  refine win_congr s m fun i hi => ?_
  unfold tb
  rw [List.getD_eq_getElem?_getD, wordN_get s _ k _ (by omega)]
  rfl
theorem has_wide (F : FunC K mg "_law_wide" 53 ["_law_core_here", "_law_many", "_law_cell"]) (T : Bt mg) (h__law_power : Has P w K mg base 1 "_law_power" ["_law_signs", "_law_many"] sp_power) (h__law_seen : Has P w K mg base 1 "_law_seen" ["_law_core_here", "_law_many", "_law_low_here", "_law_word_here"] (sp_seen K)) (h__law_word : Has P w K mg base 1 "_law_word" ["_law_number", "_law_signs", "_law_many"] sp_word) : Has P w K mg base 2 "_law_wide" ["_law_core_here", "_law_many", "_law_cell"] (sp_wide K) := by
  obtain ⟨_, _, G__law_power, C__law_power⟩ := h__law_power
  obtain ⟨_, _, G__law_seen, C__law_seen⟩ := h__law_seen
  obtain ⟨_, _, G__law_word, C__law_word⟩ := h__law_word
  obtain ⟨f, fd, F, C⟩ := F
  refine ⟨f, fd, F.ok sc__law_wide (fun vs H Q E h => ?_) (fun cdv A outer s H vs Q E hr h => ?_), C⟩
  · obtain ⟨c, s, m, cell, low, L, rfl, _⟩ := h
    rfl
  · obtain ⟨c, s, m, cell, low, L, rfl, rA, hl, hs2, hs9, hm, kk⟩ := h
    refine ⟨_, (pss_cons (ps_set (i := 3) sc__law_wide.nd rfl (Or.inl rfl) (pe_ix ix_list (pe_lst (pa_cons pe_int (pa_cons pe_int (pa_cons pe_int (pa_cons pe_int (pa_cons pe_int (pa_cons pe_int (pa_cons pe_int (pa_cons pe_int pa_nil))))))))) (pe_op op_sub (pe_ix ix_tup (pv 0) pe_int (fun _ _ => rfl)) pe_int) (fun _ _ => rfl)))
      (pss_cons (ps_set (i := 4) sc__law_wide.nd rfl (Or.inl rfl) (pe_op op_mod (pv 2) (pe_op op_add (pe_op op_sub (pv 3) (pv 1)) pe_int)))
      (pss_cons (ps_set (i := 5) sc__law_wide.nd rfl (Or.inl rfl) (pe_op op_mod (pe_op op_fdiv (pv 2) pe_int) (pe_op op_add (pe_op op_sub (pe_op op_sub (pv 3) (pv 1)) (pv 4)) pe_int)))
      (pss_cons (ps_set (i := 6) sc__law_wide.nd rfl (Or.inr rfl) (pe_op op_sub (pe_ix ix_tup (pv 0) pe_int (fun _ _ => rfl)) (pv 4)))
      (pss_cons (ps_set (i := 7) sc__law_wide.nd rfl (Or.inr rfl) (pe_op op_add (pe_op op_add (pv 1) (pv 4)) (pv 5)))
      (pss_cons (ps_setLc (i := 8) (own := [("_law_k", 9)]) (g := gName 9) (tt := tYes) (by rfl) sc__law_wide.nd rfl rfl (sw_true rfl rfl rfl (by decide +kernel)) (pi_range1 (by rfl) T.range (pa_cons (pe_call G__law_power hr rfl C__law_power.mg C__law_power.kp C__law_power.b .nil pass0 (pa_cons (pe_ix ix_tup (pv 0) pe_int (fun _ _ => rfl)) (pa_cons (pv 7) pa_nil))) pa_nil)) (blkOk_by (own := [("_law_k", 9)]) (sc := defScope st__law_wide) (N := ["_law_core_here", "_law_many", "_law_cell", "_law_most", "_law_ahead", "_law_behind", "_law_low_here", "_law_size", "_law_table", "_law_k"]) (by decide +kernel)) (fun _ _ _ _ _ => pg_name (i := 9) sc__law_wide.nd rfl (Or.inl rfl)) (fun _ _ _ _ _ => pts_nil) (fun _ _ _ _ _ => (pe_call G__law_seen hr rfl C__law_seen.mg C__law_seen.kp C__law_seen.b .nil pass0 (pa_cons (pv 0) (pa_cons (pv 1) (pa_cons (pv 6) (pa_cons (pe_call G__law_word hr rfl C__law_word.mg C__law_word.kp C__law_word.b .nil pass0 (pa_cons (pv 9) (pa_cons (pe_ix (show IxR _ (rIxT K) from ix_tup) (pv 0) pe_int (fun _ _ => rfl)) (pa_cons (pv 7) pa_nil)))) pa_nil)))))))
      (pss_one (ps_ret (pe_tup (pa_cons (pe_ix ix_tup (pv 0) pe_int (fun _ _ => rfl)) (pa_cons (pv 6) (pa_cons (pe_callTy call_tuple_of (by rfl) T.tuple (by decide +kernel) (pa_cons (pv 8) pa_nil)) pa_nil)))))))))))), ?_⟩
    obtain ⟨t, r1, r2⟩ := id rA
    refine ⟨by show 8 ≤ sizeLine; decide, fun p hp => ?_⟩
    have s1 := sNew (o := .lst [V.int 6, V.int 4, V.int 3, V.int 3, V.int 3, V.int 2, V.int 2, V.int 2]) hp
    have hM : (L2.upd H p (.lst [V.int 6, V.int 4, V.int 3, V.int 3, V.int 3, V.int 2, V.int 2, V.int 2])) p = some (.lst (nvs mostL)) := upd_same
    generalize L2.upd H p (.lst [V.int 6, V.int 4, V.int 3, V.int 3, V.int 3, V.int 2, V.int 2, V.int 2]) = H1 at s1 hM ⊢
    have hm8 : s - 2 < mostL.length := by show s - 2 < 8; omega
    generalize hmo : tb mostL (s - 2) = mo at hm kk
    have h256 : ∀ k, k ≤ mo → s ^ k ≤ 256 := fun k hk => Nat.le_trans (Nat.pow_le_pow_right (by omega) (hmo ▸ hk)) (mostL_pow s hs9 hs2)
    have hmo6 : mo ≤ 6 := hmo ▸ mostL_le _
    have r1' := sT s1 r1
    refine ⟨_, rfl, c, _, _, _, rfl, rfl, r1', rfl, _, _, rfl, rfl, p, _, _, _, rfl, rfl, SqL.of hM, at_k (s - 2) (by omega) hm8, ?_⟩
    rw [hmo]
    refine ⟨_, rfl, _, rfl, _, rfl, _, _, rfl, rfl, _, _, rfl, rfl, _, _, rfl, rfl, (by show (0 : Int) < (mo : Int) - (m : Int) + 1; omega), ?_⟩
    obtain ⟨a, ha, ha2⟩ : ∃ a : Nat, cell % ((mo : Int) - (m : Int) + 1) = (a : Int) ∧ a ≤ mo - m := by
      have h1 := Int.emod_nonneg cell (b := (mo : Int) - (m : Int) + 1) (by omega)
      have h2 := Int.emod_lt_of_pos cell (b := (mo : Int) - (m : Int) + 1) (by omega)
      exact ⟨(cell % ((mo : Int) - (m : Int) + 1)).toNat, by omega, by omega⟩
    refine asG (congrArg V.int ha) ?_
    refine ⟨_, rfl, _, _, rfl, rfl, ⟨by decide, by decide⟩, _, rfl, _, rfl, _, _, rfl, rfl, _, rfl, _, _, rfl, rfl, _, _, rfl, rfl, _, _, rfl, rfl, (by show (0 : Int) < (mo : Int) - (m : Int) - (a : Int) + 1; omega), ?_⟩
    obtain ⟨b, hb, hb2⟩ : ∃ b : Nat, cell / 8 % ((mo : Int) - (m : Int) - (a : Int) + 1) = (b : Int) ∧ b ≤ mo - m - a := by
      have h1 := Int.emod_nonneg (cell / 8) (b := (mo : Int) - (m : Int) - (a : Int) + 1) (by omega)
      have h2 := Int.emod_lt_of_pos (cell / 8) (b := (mo : Int) - (m : Int) - (a : Int) + 1) (by omega)
      exact ⟨(cell / 8 % ((mo : Int) - (m : Int) - (a : Int) + 1)).toNat, by omega, by omega⟩
    refine asG (congrArg V.int hb) ?_
    have kk := kk a b (by omega)
    refine ⟨_, rfl, c, _, _, _, rfl, rfl, r1', rfl, _, rfl, _, _, rfl, rfl, ?_⟩
    refine ⟨_, rfl, _, rfl, _, _, rfl, rfl, _, rfl, _, _, rfl, rfl, ?_⟩
    have e1 : (m : Int) + (a : Int) + (b : Int) = ((a + m + b : Nat) : Int) := by omega
    show gName 7 (V.int ((m : Int) + (a : Int) + (b : Int))) _ _ _
    refine asG (congrArg V.int e1) ?_
    have hP := h256 (a + m + b) (by omega)
    refine ⟨_, rfl, c, _, _, _, rfl, rfl, r1', rfl, _, rfl, s, a + m + b, rfl, hs9, by omega, _, rfl, by omega, by omega, fun D hD => ?_⟩
    · refine lc_range0 (n := s ^ (a + m + b)) (fun i H' => Same H1 H' ∧ H' D = some (.lst (nvs ((List.range i).map fun k => tb L (k / s ^ b % s ^ m))))) ⟨sNew hD, upd_same⟩ ?_ ?_
      · rintro i H' hi ⟨sm, hL⟩
        refine ⟨rfl, _, rfl, _, rfl, _, rfl, _, rfl, _, rfl, c, _, _, _, rfl, rfl, sT sm r1', rfl, _, rfl, i, s, a + m + b, rfl, by omega, hs9, by omega, fun H2 q s2 nq hq => ?_⟩
        refine ⟨c, q, s, m, a, low, L, _, rfl, (rA.same s1).same (sm.trans s2), hl, hs9, by omega, SqL.of hq, by rw [wordN_len]; omega, wordN_lt s (by omega) _ i, ?_⟩
        rw [wide_word (by omega) hi]
        refine ⟨_, s2 _ _ hL, small_line (by rw [nvs_len, List.length_map, List.length_range]; omega), sUp (sm.trans s2) hD, ?_⟩
        rw [upd_same, List.range_succ, List.map_append]
        show _ = some (HO.lst (List.map nv (_ ++ [_])))
        rw [List.map_append]
        rfl
      · rintro H' ⟨sm, hL⟩
        refine ⟨_, rfl, c, _, _, _, rfl, rfl, sT sm r1', rfl, _, rfl, _, rfl, D, _, rfl, .inl ⟨SqL.of hL, fun u hu => ⟨by show 3 ≤ sizeLine; decide, fun v hv => ?_⟩⟩⟩
        have nuv : u ≠ v := fun e => by rw [← e, upd_same] at hv; cases hv
        have hv' : H' v = none := by rw [upd_ne (Ne.symm nuv)] at hv; exact hv
        have st := s1.trans sm
        refine kk _ v (sUp (sUp st (st.free hu)) (st.free hv')) (st.free hv') ⟨u, SqT.of upd_same, SqT.of (by rw [upd_ne nuv, upd_same]; rfl)⟩

abbrev st__law_counts : Stmt := top 54
theorem sc__law_counts : FnScope ["_law_one", "_law_many", "_law_j", "_law_weight", "_law_k"] ["_law_one", "_law_many", "_law_j"] (defScope st__law_counts) := ⟨rfl, rfl, rfl, by decide +kernel, rfl, by decide +kernel, by decide +kernel⟩
def sp_lcounts (K : PySem.W.Frag) : Sp := fun vs H Q _ => ∃ (c : Addr) (s m j : Nat) (low : Int) (L : List Nat), vs = [.ref c, nv m, nv j] ∧ RuleAt K H c s low L ∧ L.length = s ^ m ∧ s ^ m ≤ 1000 ∧ 1 ≤ s ∧ s ≤ 9 ∧ m ≤ 1000 ∧ j < m ∧ Q (.bl (lawCnt L s (s ^ (m - 1 - j)))) H
theorem has_lcounts (F : FunC K mg "_law_counts" 54 ["_law_one", "_law_many", "_law_j"]) (T : Bt mg) (h__law_power : Has P w K mg base 1 "_law_power" ["_law_signs", "_law_many"] sp_power) : Has P w K mg base 2 "_law_counts" ["_law_one", "_law_many", "_law_j"] (sp_lcounts K) := by
  obtain ⟨_, _, G__law_power, C__law_power⟩ := h__law_power
  obtain ⟨f, fd, F, C⟩ := F
  refine ⟨f, fd, F.ok sc__law_counts (fun vs H Q E h => ?_) (fun cdv A outer s H vs Q E hr h => ?_), C⟩
  · obtain ⟨c, s, m, j, low, L, rfl, _⟩ := h
    rfl
  · obtain ⟨c, s, m, j, low, L, rfl, ⟨t, r1, r2⟩, hl0, hl1, hs1, hs9, hm, hj, kk⟩ := h
    refine ⟨_, (pss_cons (ps_set (i := 3) sc__law_counts.nd rfl (Or.inl rfl) (pe_call G__law_power hr rfl C__law_power.mg C__law_power.kp C__law_power.b .nil pass0 (pa_cons (pe_ix ix_tup (pv 0) pe_int (fun _ _ => rfl)) (pa_cons (pe_op op_sub (pe_op op_sub (pv 1) pe_int) (pv 2)) pa_nil))))
      (pss_cons (ps_for PassesOwn.never rfl (pi_range1 (by rfl) T.range (pa_cons (pe_callB call_len_seq (by rfl) T.len PySem.boot_len (pa_cons (pe_ix ix_tup (pv 0) pe_int (fun _ _ => rfl)) pa_nil)) pa_nil)) (pg_name (i := 4) sc__law_counts.nd rfl (Or.inl rfl))
        (pss_one (ps_if (pt_cmpR op_ne (pe_ix ix_tup (pe_ix ix_tup (pv 0) pe_int (fun _ _ => rfl)) (pv 4) (fun _ _ => rfl)) (pe_ix ix_tup (pe_ix ix_tup (pv 0) pe_int (fun _ _ => rfl)) (pe_op op_sub (pv 4) (pe_op op_mul (pe_op op_mod (pe_op op_fdiv (pv 4) (pv 3)) (pe_ix ix_tup (pv 0) pe_int (fun _ _ => rfl))) (pv 3))) (fun _ _ => rfl)) (nomark _))
          (pss_one (ps_ret pe_bl))
          pss_nil)))
      (pss_one (ps_ret pe_bl)))), ?_⟩
    refine ⟨_, rfl, c, _, _, _, rfl, rfl, r1, rfl, _, rfl, _, _, rfl, rfl, _, rfl, _, _, rfl, rfl, s, m - 1 - j, ?_, hs9, by omega, ?_⟩
    · show [nv s, V.int ((m : Int) - 1 - (j : Int))] = [nv s, nv (m - 1 - j)]
      rw [show (m : Int) - 1 - (j : Int) = ((m - 1 - j : Nat) : Int) by omega]
    have hw : 0 < s ^ (m - 1 - j) := Nat.pow_pos hs1
    have hw2 : s ^ (m - 1 - j) ≤ s ^ m := Nat.pow_le_pow_right hs1 (by omega)
    have hl : L.length ≤ 1000 := by omega
    refine ⟨_, rfl, c, _, _, _, rfl, rfl, r1, rfl, t, _, rfl, .inr r2, _, rfl, by rw [nvs_len]; omega, by rw [nvs_len]; omega, ?_⟩
    rw [nvs_len]
    refine for_range0 (n := L.length) (fun i σ H' => ∃ u, σ = [some (.ref c), some (nv m), some (nv j), some (nv (s ^ (m - 1 - j))), u] ∧ H' = H ∧ ∀ k, k < i → tb L k = tb L (k - k / s ^ (m - 1 - j) % s * s ^ (m - 1 - j))) ⟨none, rfl, rfl, fun k hk => absurd hk (Nat.not_lt_zero _)⟩ ?_ ?_
    · rintro i σ H' hi ⟨u, rfl, rfl, hall⟩
      have hle : i / s ^ (m - 1 - j) % s * s ^ (m - 1 - j) ≤ i := Nat.le_trans (Nat.mul_le_mul_right _ (Nat.mod_le _ _)) (Nat.div_mul_le_self _ _)
      refine ⟨_, rfl, c, _, _, _, rfl, rfl, r1, rfl, _, rfl, t, _, _, _, rfl, rfl, r2, at_k i rfl hi, ?_⟩
      refine ⟨_, rfl, c, _, _, _, rfl, rfl, r1, rfl, _, rfl, _, rfl, _, rfl, _, _, rfl, rfl, ⟨by omega, by omega⟩, _, rfl, c, _, _, _, rfl, rfl, r1, rfl, _, _, rfl, rfl, (by show (0 : Int) < (s : Int); omega), _, rfl, _, _, rfl, rfl, .inr ⟨by omega, by omega⟩, _, _, rfl, rfl, t, _, _, _, rfl, rfl, r2, at_k (i - i / s ^ (m - 1 - j) % s * s ^ (m - 1 - j)) ?_ (by omega), ?_⟩
      · rw [Int.ofNat_sub hle]
        rfl
      · refine ⟨rfl, _, rfl, ?_⟩
        refine ifN2 (fun h => ?_) (fun h => ?_)
        · have : lawCnt L s (s ^ (m - 1 - j)) = true := by
            unfold lawCnt
            rw [List.any_eq_true]
            exact ⟨i, List.mem_range.mpr hi, decide_eq_true fun e => h (by rw [e])⟩
          rw [this] at kk
          exact kk
        · refine ⟨some (nv i), rfl, rfl, fun k hk => ?_⟩
          by_cases e : k = i
          · rw [e]
            have h2 : ((tb L i : Nat) : Int) = ((tb L (i - i / s ^ (m - 1 - j) % s * s ^ (m - 1 - j)) : Nat) : Int) := V.int.inj h
            omega
          · exact hall k (by omega)
    · rintro σ H' ⟨u, rfl, rfl, hall⟩
      have : lawCnt L s (s ^ (m - 1 - j)) = false := by
        unfold lawCnt
        rw [List.any_eq_false]
        intro k hk
        rw [decide_eq_true_eq]
        exact fun h => h (hall k (List.mem_range.mp hk))
      rw [this] at kk
      exact kk
end
end K52
set_option Elab.async false
set_option maxRecDepth 100000
namespace K52
open PySem L2
theorem map_snoc (l : List Nat) (x : Nat) : nvs l ++ [nv x] = nvs (l ++ [x]) := by
  show _ = List.map nv (l ++ [x])
  rw [List.map_append]
  rfl
theorem range_snoc (f : Nat → Nat) (i : Nat) : nvs ((List.range i).map f) ++ [nv (f i)] = nvs ((List.range (i + 1)).map f) := by
  rw [map_snoc, List.range_succ, List.map_append]
  rfl
/-- the digit that the law's frame puts at a place -/
def lfz (s f q k : Nat) (j : Nat) : Nat := if f ≤ j ∧ j < f + q then k / s ^ (q - 1 - (j - f)) % s else 0
theorem lfz_lt {s f q k : Nat} (hs : 0 < s) (j : Nat) : lfz s f q k j < s := by
  unfold lfz
  split
  · exact Nat.mod_lt _ hs
  · exact hs
section
variable {P : Program} {w : World} {K : PySem.W.Frag} {mg : Str → Option Value} {base : Heap}
abbrev st__law_frame : Stmt := top 55
theorem sc__law_frame : FnScope ["_law_one", "_law_many", "_law_some", "_law_first", "_law_size", "_law_table", "_law_k", "_law_word_here", "_law_at", "_law_j"] ["_law_one", "_law_many"] (defScope st__law_frame) := ⟨rfl, rfl, rfl, by decide +kernel, rfl, by decide +kernel, by decide +kernel⟩
def sp_lframe (K : PySem.W.Frag) : Sp := fun vs H Q _ => ∃ (c : Addr) (s m : Nat) (low : Int) (L : List Nat), vs = [.ref c, nv m] ∧ RuleAt K H c s low L ∧ L.length = s ^ m ∧ s ^ m ≤ 256 ∧ 2 ≤ s ∧ s ≤ 9 ∧ m ≤ 8 ∧
  ∀ (H' : Hp) (p t : Addr), Same H H' → H p = none → H t = none → H' p = some (.lst [.ref t, nv (lawSize L s m)]) → H' t = some (.lst (nvs (lawFrame L s m))) → Q (.ref p) H'
theorem has_lframe (F : FunC K mg "_law_frame" 55 ["_law_one", "_law_many"]) (T : Bt mg) (h__law_counts : Has P w K mg base 2 "_law_counts" ["_law_one", "_law_many", "_law_j"] (sp_lcounts K)) (h__law_power : Has P w K mg base 2 "_law_power" ["_law_signs", "_law_many"] sp_power) (h__law_word : Has P w K mg base 2 "_law_word" ["_law_number", "_law_signs", "_law_many"] sp_word) : Has P w K mg base 3 "_law_frame" ["_law_one", "_law_many"] (sp_lframe K) := by
  obtain ⟨_, _, G__law_counts, C__law_counts⟩ := h__law_counts
  obtain ⟨_, _, G__law_power, C__law_power⟩ := h__law_power
  obtain ⟨_, _, G__law_word, C__law_word⟩ := h__law_word
  obtain ⟨f, fd, F, C⟩ := F
  refine ⟨f, fd, F.ok sc__law_frame (fun vs H Q E h => ?_) (fun cdv A outer s H vs Q E hr h => ?_), C⟩
  · obtain ⟨c, s, m, low, L, rfl, _⟩ := h
    rfl
  · obtain ⟨c, s, m, low, L, rfl, rA, hl, h256, hs2, hs9, hm8, kk⟩ := h
    refine ⟨_, (pss_cons (ps_setLc (i := 2) (own := [("_law_j", 9)]) (g := gName 9) (by rfl) sc__law_frame.nd rfl rfl (sw_true rfl rfl rfl (by decide +kernel)) (pi_range1 (by rfl) T.range (pa_cons (pv 1) pa_nil)) (blkOk_by (own := [("_law_j", 9)]) (sc := defScope st__law_frame) (N := ["_law_one", "_law_many", "_law_some", "_law_first", "_law_size", "_law_table", "_law_k", "_law_word_here", "_law_at", "_law_j"]) (by decide +kernel)) (fun _ _ _ _ _ => pg_name (i := 9) sc__law_frame.nd rfl (Or.inl rfl)) (fun _ _ _ _ _ => pts_one (pt_val (pe_call G__law_counts hr rfl C__law_counts.mg C__law_counts.kp C__law_counts.b .nil pass0 (pa_cons (pv 0) (pa_cons (pv 1) (pa_cons (pv 9) pa_nil)))))) (fun _ _ _ _ _ => (pv 9)))
      (pss_cons (ps_set (i := 3) sc__law_frame.nd rfl (Or.inl rfl) pe_int)
      (pss_cons (ps_set (i := 4) sc__law_frame.nd rfl (Or.inl rfl) pe_int)
      (pss_cons (ps_if (pt_cmpR (op_neD hr.units) (pv 2) (pe_lst pa_nil) (nomark _))
        (pss_cons (ps_set (i := 3) sc__law_frame.nd rfl (Or.inl rfl) (pe_ix ix_list (pv 2) pe_int (fun _ _ => rfl)))
        (pss_one (ps_set (i := 4) sc__law_frame.nd rfl (Or.inl rfl) (pe_callB (call_max2 rfl) (by rfl) T.max (by decide +kernel) (pa_cons pe_int (pa_cons (pe_op op_add (pe_op op_sub (pe_ix ix_list (pv 2) (pe_un un_neg pe_int) (fun _ _ => rfl)) (pv 3)) pe_int) pa_nil))))))
        pss_nil)
      (pss_cons (ps_set (i := 5) sc__law_frame.nd rfl (Or.inl rfl) (pe_lst pa_nil))
      (pss_cons (ps_for PassesOwn.never rfl (pi_range1 (by rfl) T.range (pa_cons (pe_call G__law_power hr rfl C__law_power.mg C__law_power.kp C__law_power.b .nil pass0 (pa_cons (pe_ix ix_tup (pv 0) pe_int (fun _ _ => rfl)) (pa_cons (pv 4) pa_nil))) pa_nil)) (pg_name (i := 6) sc__law_frame.nd rfl (Or.inl rfl))
        (pss_cons (ps_set (i := 7) sc__law_frame.nd rfl (Or.inl rfl) (pe_call G__law_word hr rfl C__law_word.mg C__law_word.kp C__law_word.b .nil pass0 (pa_cons (pv 6) (pa_cons (pe_ix ix_tup (pv 0) pe_int (fun _ _ => rfl)) (pa_cons (pv 4) pa_nil)))))
        (pss_cons (ps_set (i := 8) sc__law_frame.nd rfl (Or.inl rfl) pe_int)
        (pss_cons (ps_for PassesOwn.never rfl (pi_range1 (by rfl) T.range (pa_cons (pv 1) pa_nil)) (pg_name (i := 9) sc__law_frame.nd rfl (Or.inl rfl))
          (pss_cons (ps_set (i := 8) sc__law_frame.nd rfl (Or.inl rfl) (pe_op op_mul (pv 8) (pe_ix ix_tup (pv 0) pe_int (fun _ _ => rfl))))
          (pss_one (ps_if (PW.pt (pw_and (pt_cmpR op_le (pv 3) (pv 9) (nomark _)) (pw_and1 (pt_cmpR op_lt (pv 9) (pe_op op_add (pv 3) (pv 4)) (nomark _)))))
            (pss_one (ps_set (i := 8) sc__law_frame.nd rfl (Or.inl rfl) (pe_op op_add (pv 8) (pe_ix ix_list (pv 7) (pe_op op_sub (pv 9) (pv 3)) (fun _ _ => rfl)))))
            pss_nil))))
        (pss_one (ps_expr (pe_bm PySem.F.plainAttrs_list PySem.F.slot_list_append PySem.F.type_list_append mt_append (pv 5) (pa_cons (pe_ix ix_tup (pe_ix ix_tup (pv 0) pe_int (fun _ _ => rfl)) (pv 8) (fun _ _ => rfl)) pa_nil))))))))
      (pss_one (ps_ret (pe_lst (pa_cons (pv 5) (pa_cons (pv 4) pa_nil))))))))))), ?_⟩
    obtain ⟨t, r1, r2⟩ := id rA
    refine ⟨_, rfl, _, rfl, by omega, by omega, fun D hD => ?_⟩
    refine lc_range0 (n := m) (fun i H' => Same H H' ∧ H' D = some (.lst (nvs ((List.range i).filter fun j => lawCnt L s (s ^ (m - 1 - j)))))) ⟨sNew hD, upd_same⟩ ?_ ?_
    · rintro i H' hi ⟨sm, hL⟩
      refine ⟨rfl, _, rfl, _, rfl, _, rfl, c, s, m, i, low, L, rfl, rA.same sm, hl, by omega, by omega, hs9, by omega, hi, _, rfl, ?_⟩
      cases hc : lawCnt L s (s ^ (m - 1 - i)) with
      | true =>
        refine iteT ?_
        refine ⟨_, rfl, _, hL, small_line ?_, sUp sm hD, ?_⟩
        · rw [nvs_len]
          have := List.length_filter_le (fun j => lawCnt L s (s ^ (m - 1 - j))) (List.range i)
          rw [List.length_range] at this
          omega
        · rw [upd_same, filt_pos (p := fun j => lawCnt L s (s ^ (m - 1 - j))) hc, ← map_snoc]
      | false =>
        refine iteF ?_
        refine ⟨sm, ?_⟩
        rw [hL, filt_neg (p := fun j => lawCnt L s (s ^ (m - 1 - j))) hc]
    · rintro H1 ⟨s1, hD1⟩
      have hD1 : H1 D = some (.lst (nvs (someQ L s m))) := hD1
      have hq2 := lawSize_ge L s m
      have hq3 : lawSize L s m ≤ max 2 m := lawSize_le
      have hqm : s ^ lawSize L s m ≤ 256 := by
        by_cases h : lawSize L s m ≤ m
        · exact Nat.le_trans (Nat.pow_le_pow_right (by omega) h) h256
        · have : lawSize L s m = 2 := by omega
          rw [this]
          have := Nat.pow_le_pow_left hs9 2
          omega
      refine ⟨_, rfl, Nat.zero_le _, fun d hd => ?_⟩
      have nDd : D ≠ d := ne_of_none hD1 hd
      have s2 : Same H (L2.upd H1 d (.lst [])) := s1.trans (sNew hd)
      have hD2 : (L2.upd H1 d (.lst [])) D = some (.lst (nvs (someQ L s m))) := by rw [upd_ne nDd]; exact hD1
      have em : ∀ l : List Nat, nvs l = (l.map fun (b : Nat) => (b : Int)).map V.int := fun l => by rw [List.map_map]; rfl
      refine ⟨_, _, dp_list (l := (someQ L s m).map fun (j : Nat) => (j : Int)) (by rw [← em]; exact SqL.of hD2), dp_list (l := []) (SqL.of upd_same), shaped_list _, shaped_list _, _, rfl, ?_⟩
      rw [eqv_list]
      generalize L2.upd H1 d (.lst []) = H2 at s2 hD2 ⊢
      cases e : someQ L s m with
      | nil =>
        have e1 : lawFirst L s m = 0 := by unfold lawFirst; rw [e]; rfl
        have e2 : lawSize L s m = 2 := by unfold lawSize; rw [if_pos e]
        have c1 : nv (lawFirst L s m) = V.int 0 := by rw [e1]; rfl
        have c2 : nv (lawSize L s m) = V.int 2 := by rw [e2]; rfl
        refine ifNF rfl ?_
        refine ⟨Nat.zero_le _, fun p hp => ?_⟩
        have s3 := s2.trans (sNew (o := .lst []) hp)
        have np : H p = none := s2.free hp
        refine ⟨_, rfl, c, _, _, _, rfl, rfl, sT s3 r1, rfl, _, rfl, s, lawSize L s m, by rw [c2]; rfl, hs9, by omega, _, rfl, by omega, by omega, ?_⟩
        refine for_range0 (n := s ^ lawSize L s m) (fun i σ H' => ∃ u6 u7 u8 u9, σ = [some (.ref c), some (nv m), some (.ref D), some (nv (lawFirst L s m)), some (nv (lawSize L s m)), some (.ref p), u6, u7, u8, u9] ∧ Same H H' ∧ H' p = some (.lst (nvs ((List.range i).map fun k => tb L (win s (lfz s (lawFirst L s m) (lawSize L s m) k) m))))) ⟨none, none, none, none, by rw [c1, c2]; rfl, s3, upd_same⟩ ?_ ?_
        · rintro i σ H' hi ⟨u6, u7, u8, u9, rfl, sm, hL⟩
          refine ⟨_, rfl, _, rfl, c, _, _, _, rfl, rfl, sT sm r1, rfl, _, rfl, i, s, lawSize L s m, rfl, by omega, hs9, by omega, fun H3 q s4 nq hq => ?_⟩
          have sm3 := sm.trans s4
          refine ⟨_, rfl, _, rfl, by omega, by omega, ?_⟩
          refine for_range0 (n := m) (fun j σ H'' => ∃ u9, σ = [some (.ref c), some (nv m), some (.ref D), some (nv (lawFirst L s m)), some (nv (lawSize L s m)), some (.ref p), some (nv i), some (.ref q), some (nv (win s (lfz s (lawFirst L s m) (lawSize L s m) i) j)), u9] ∧ H'' = H3) ⟨_, rfl, rfl⟩ ?_ ?_
          · rintro j σ H'' hj ⟨u9, rfl, rfl⟩
            refine ⟨_, rfl, _, rfl, c, _, _, _, rfl, rfl, sT sm3 r1, rfl, _, _, rfl, rfl, .inr ⟨by omega, by omega⟩, ?_⟩
            refine ⟨_, rfl, _, rfl, _, _, rfl, rfl, _, rfl, ?_⟩
            refine if2 (fun h1 => ?_) (fun h1 => ?_)
            · have h1 : ((lawFirst L s m : Nat) : Int) ≤ (j : Int) := h1
              refine ⟨_, rfl, _, rfl, _, rfl, _, _, rfl, rfl, _, _, rfl, rfl, _, rfl, ?_⟩
              refine if2 (fun h2 => ?_) (fun h2 => ?_)
              · have h2 : (j : Int) < ((lawFirst L s m : Nat) : Int) + ((lawSize L s m : Nat) : Int) := h2
                refine ⟨_, rfl, _, rfl, _, rfl, _, rfl, _, _, rfl, rfl, q, _, _, _, rfl, rfl, SqL.of hq, at_k (j - lawFirst L s m) (by omega) (by rw [wordN_len]; omega), _, _, rfl, rfl, ?_⟩
                refine ⟨some (nv j), ?_, rfl⟩
                have e : tb (wordN s (lawSize L s m) i) (j - lawFirst L s m) = lfz s (lawFirst L s m) (lawSize L s m) i j := by
                  unfold tb lfz
                  rw [if_pos ⟨by omega, by omega⟩, List.getD_eq_getElem?_getD, wordN_get s _ i _ (by omega)]
                  rfl
                rw [e]
                rfl
              · have h2 : ¬ (j : Int) < ((lawFirst L s m : Nat) : Int) + ((lawSize L s m : Nat) : Int) := h2
                refine ⟨some (nv j), ?_, rfl⟩
                have e : lfz s (lawFirst L s m) (lawSize L s m) i j = 0 := by
                  unfold lfz
                  rw [if_neg (by omega)]
                rw [win, e]
                rfl
            · have h1 : ¬ ((lawFirst L s m : Nat) : Int) ≤ (j : Int) := h1
              refine iteF ?_
              refine ⟨some (nv j), ?_, rfl⟩
              have e : lfz s (lawFirst L s m) (lawSize L s m) i j = 0 := by
                unfold lfz
                rw [if_neg (by omega)]
              rw [win, e]
              rfl
          · rintro σ H'' ⟨u9, rfl, rfl⟩
            have hlt : win s (lfz s (lawFirst L s m) (lawSize L s m) i) m < L.length := by
              rw [hl]
              exact win_lt s m fun j _ => lfz_lt (by omega) j
            refine ⟨_, rfl, .inl ⟨rfl, _, SqL.of (s4 _ _ hL)⟩, _, rfl, c, _, _, _, rfl, rfl, sT sm3 r1, rfl, _, rfl, t, _, _, _, rfl, rfl, sT sm3 r2, at_k _ rfl hlt, p, _, _, rfl, rfl, s4 _ _ hL, small_line (by rw [nvs_len, List.length_map, List.length_range]; omega), ?_⟩
            refine ⟨_, _, _, _, rfl, sUp sm3 np, ?_⟩
            rw [upd_same, range_snoc (fun k => tb L (win s (lfz s (lawFirst L s m) (lawSize L s m) k) m)) i]
        · rintro σ H' ⟨u6, u7, u8, u9, rfl, sm, hL⟩
          refine ⟨_, rfl, _, rfl, by show 2 ≤ sizeLine; decide, fun r hr' => ?_⟩
          exact kk _ r p (sUp sm (sm.free hr')) (sm.free hr') np upd_same (by rw [upd_ne (ne_of_none hL hr')]; exact hL)
      | cons f0 r =>
        obtain ⟨_, h2, _, h4, _, h6⟩ := filter_ends e
        have e1 : lawFirst L s m = f0 := by unfold lawFirst; rw [e]; rfl
        have e2 : lawSize L s m = max 2 ((f0 :: r).getLastD 0 - f0 + 1) := by unfold lawSize; rw [e1, e, if_neg (by simp)]
        refine ifNT (by simp) ?_
        rw [e] at hD2
        refine ⟨_, rfl, D, _, _, _, rfl, rfl, SqL.of hD2, atI_nat (j := 0) rfl, ?_⟩
        have hlast : (nvs (f0 :: r)).getLast? = some (nv ((f0 :: r).getLastD 0)) := by
          rw [List.getLast?_map, List.getLastD_eq_getLast?, List.getLast?_eq_some_getLast (by simp)]
          rfl
        refine ⟨_, rfl, _, rfl, D, _, _, _, rfl, rfl, SqL.of hD2, atI_m1 hlast, _, rfl, _, _, rfl, rfl, _, _, rfl, rfl, _, _, rfl, ?_⟩
        have c2 : (if ((((f0 :: r).getLastD 0 : Nat) : Int) - (f0 : Int) + 1) > 2 then ((((f0 :: r).getLastD 0 : Nat) : Int) - (f0 : Int) + 1) else 2) = ((lawSize L s m : Nat) : Int) := by
          rw [e2]
          split <;> omega
        show gName 4 (V.int (if ((((f0 :: r).getLastD 0 : Nat) : Int) - (f0 : Int) + 1) > 2 then ((((f0 :: r).getLastD 0 : Nat) : Int) - (f0 : Int) + 1) else 2)) _ _ _
        refine asG (congrArg V.int c2) ?_
        have hF : f0 = lawFirst L s m := e1.symm
        rw [hF]
        refine ⟨Nat.zero_le _, fun p hp => ?_⟩
        have s3 := s2.trans (sNew (o := .lst []) hp)
        have np : H p = none := s2.free hp
        refine ⟨_, rfl, c, _, _, _, rfl, rfl, sT s3 r1, rfl, _, rfl, s, lawSize L s m, rfl, hs9, by omega, _, rfl, by omega, by omega, ?_⟩
        refine for_range0 (n := s ^ lawSize L s m) (fun i σ H' => ∃ u6 u7 u8 u9, σ = [some (.ref c), some (nv m), some (.ref D), some (nv (lawFirst L s m)), some (nv (lawSize L s m)), some (.ref p), u6, u7, u8, u9] ∧ Same H H' ∧ H' p = some (.lst (nvs ((List.range i).map fun k => tb L (win s (lfz s (lawFirst L s m) (lawSize L s m) k) m))))) ⟨none, none, none, none, rfl, s3, upd_same⟩ ?_ ?_
        · rintro i σ H' hi ⟨u6, u7, u8, u9, rfl, sm, hL⟩
          refine ⟨_, rfl, _, rfl, c, _, _, _, rfl, rfl, sT sm r1, rfl, _, rfl, i, s, lawSize L s m, rfl, by omega, hs9, by omega, fun H3 q s4 nq hq => ?_⟩
          have sm3 := sm.trans s4
          refine ⟨_, rfl, _, rfl, by omega, by omega, ?_⟩
          refine for_range0 (n := m) (fun j σ H'' => ∃ u9, σ = [some (.ref c), some (nv m), some (.ref D), some (nv (lawFirst L s m)), some (nv (lawSize L s m)), some (.ref p), some (nv i), some (.ref q), some (nv (win s (lfz s (lawFirst L s m) (lawSize L s m) i) j)), u9] ∧ H'' = H3) ⟨_, rfl, rfl⟩ ?_ ?_
          · rintro j σ H'' hj ⟨u9, rfl, rfl⟩
            refine ⟨_, rfl, _, rfl, c, _, _, _, rfl, rfl, sT sm3 r1, rfl, _, _, rfl, rfl, .inr ⟨by omega, by omega⟩, ?_⟩
            refine ⟨_, rfl, _, rfl, _, _, rfl, rfl, _, rfl, ?_⟩
            refine if2 (fun h1 => ?_) (fun h1 => ?_)
            · have h1 : ((lawFirst L s m : Nat) : Int) ≤ (j : Int) := h1
              refine ⟨_, rfl, _, rfl, _, rfl, _, _, rfl, rfl, _, _, rfl, rfl, _, rfl, ?_⟩
              refine if2 (fun h2 => ?_) (fun h2 => ?_)
              · have h2 : (j : Int) < ((lawFirst L s m : Nat) : Int) + ((lawSize L s m : Nat) : Int) := h2
                refine ⟨_, rfl, _, rfl, _, rfl, _, rfl, _, _, rfl, rfl, q, _, _, _, rfl, rfl, SqL.of hq, at_k (j - lawFirst L s m) (by omega) (by rw [wordN_len]; omega), _, _, rfl, rfl, ?_⟩
                refine ⟨some (nv j), ?_, rfl⟩
                have e : tb (wordN s (lawSize L s m) i) (j - lawFirst L s m) = lfz s (lawFirst L s m) (lawSize L s m) i j := by
                  unfold tb lfz
                  rw [if_pos ⟨by omega, by omega⟩, List.getD_eq_getElem?_getD, wordN_get s _ i _ (by omega)]
                  rfl
                rw [e]
                rfl
              · have h2 : ¬ (j : Int) < ((lawFirst L s m : Nat) : Int) + ((lawSize L s m : Nat) : Int) := h2
                refine ⟨some (nv j), ?_, rfl⟩
                have e : lfz s (lawFirst L s m) (lawSize L s m) i j = 0 := by
                  unfold lfz
                  rw [if_neg (by omega)]
                rw [win, e]
                rfl
            · have h1 : ¬ ((lawFirst L s m : Nat) : Int) ≤ (j : Int) := h1
              refine iteF ?_
              refine ⟨some (nv j), ?_, rfl⟩
              have e : lfz s (lawFirst L s m) (lawSize L s m) i j = 0 := by
                unfold lfz
                rw [if_neg (by omega)]
              rw [win, e]
              rfl
          · rintro σ H'' ⟨u9, rfl, rfl⟩
            have hlt : win s (lfz s (lawFirst L s m) (lawSize L s m) i) m < L.length := by
              rw [hl]
              exact win_lt s m fun j _ => lfz_lt (by omega) j
            refine ⟨_, rfl, .inl ⟨rfl, _, SqL.of (s4 _ _ hL)⟩, _, rfl, c, _, _, _, rfl, rfl, sT sm3 r1, rfl, _, rfl, t, _, _, _, rfl, rfl, sT sm3 r2, at_k _ rfl hlt, p, _, _, rfl, rfl, s4 _ _ hL, small_line (by rw [nvs_len, List.length_map, List.length_range]; omega), ?_⟩
            refine ⟨_, _, _, _, rfl, sUp sm3 np, ?_⟩
            rw [upd_same, range_snoc (fun k => tb L (win s (lfz s (lawFirst L s m) (lawSize L s m) k) m)) i]
        · rintro σ H' ⟨u6, u7, u8, u9, rfl, sm, hL⟩
          refine ⟨_, rfl, _, rfl, by show 2 ≤ sizeLine; decide, fun r hr' => ?_⟩
          exact kk _ r p (sUp sm (sm.free hr')) (sm.free hr') np upd_same (by rw [upd_ne (ne_of_none hL hr')]; exact hL)
end
end K52
set_option Elab.async false
set_option maxRecDepth 100000
namespace K52
open PySem L2
theorem ixN_n {n j : Nat} (hj : j < n) : ixN n (j : Int) = some j := by
  unfold ixN
  rw [if_pos (by omega), if_pos (by omega), Int.toNat_natCast]
def spoilT (L : List Nat) (s n : Nat) : List Nat := L.set (n % L.length) ((tb L (n % L.length) + 1 + n / 1024 % (s - 1)) % s)
section
variable {P : Program} {w : World} {K : PySem.W.Frag} {mg : Str → Option Value} {base : Heap}
abbrev st__law_spoiled : Stmt := top 59
theorem sc__law_spoiled : FnScope ["_law_core_here", "_law_number", "_law_table", "_law_at"] ["_law_core_here", "_law_number"] (defScope st__law_spoiled) := ⟨rfl, rfl, rfl, by decide +kernel, rfl, by decide +kernel, by decide +kernel⟩
def sp_spoiled (K : PySem.W.Frag) : Sp := fun vs H Q _ => ∃ (c : Addr) (s n : Nat) (low : Int) (L : List Nat), vs = [.ref c, nv n] ∧ RuleAt K H c s low L ∧ 0 < L.length ∧ L.length ≤ 1000 ∧ 2 ≤ s ∧ s ≤ 9 ∧ NewR K H s low (spoilT L s n) Q
theorem has_spoiled (F : FunC K mg "_law_spoiled" 59 ["_law_core_here", "_law_number"]) (T : Bt mg) : Has P w K mg base 1 "_law_spoiled" ["_law_core_here", "_law_number"] (sp_spoiled K) := by
  obtain ⟨f, fd, F, C⟩ := F
  refine ⟨f, fd, F.ok sc__law_spoiled (fun vs H Q E h => ?_) (fun cdv A outer s H vs Q E hr h => ?_), C⟩
  · obtain ⟨c, s, n, low, L, rfl, _⟩ := h
    rfl
  · obtain ⟨c, s, n, low, L, rfl, ⟨t, r1, r2⟩, hl0, hl1, hs2, hs9, kk⟩ := h
    have hu := hu_of hr
    refine ⟨_, (pss_cons (ps_set (i := 2) sc__law_spoiled.nd rfl (Or.inl rfl) (pe_callTy call_list_of (by rfl) T.list (by decide +kernel) (pa_cons (pe_ix ix_tup (pv 0) pe_int (fun _ _ => rfl)) pa_nil)))
      (pss_cons (ps_set (i := 3) sc__law_spoiled.nd rfl (Or.inl rfl) (pe_op op_mod (pv 1) (pe_callB call_len_seq (by rfl) T.len PySem.boot_len (pa_cons (pv 2) pa_nil))))
      (pss_cons (ps_asg (pe_op op_mod (pe_op op_add (pe_op op_add (pe_ix ix_list (pv 2) (pv 3) (fun _ _ => rfl)) pe_int) (pe_op op_mod (pe_op op_fdiv (pv 1) pe_int) (pe_op op_sub (pe_ix ix_tup (pv 0) pe_int (fun _ _ => rfl)) pe_int))) (pe_ix ix_tup (pv 0) pe_int (fun _ _ => rfl))) (pg_sub (pv 2) (pv 3) set_list))
      (pss_one (ps_ret (pe_tup (pa_cons (pe_ix ix_tup (pv 0) pe_int (fun _ _ => rfl)) (pa_cons (pe_ix ix_tup (pv 0) pe_int (fun _ _ => rfl)) (pa_cons (pe_callTy call_tuple_of (by rfl) T.tuple (by decide +kernel) (pa_cons (pv 2) pa_nil)) pa_nil))))))))), ?_⟩
    refine ⟨_, rfl, c, _, _, _, rfl, rfl, r1, rfl, t, _, rfl, .inr r2, fun p hp => ?_⟩
    have s1 := sNew (o := .lst (nvs L)) hp
    have hM : (L2.upd H p (.lst (nvs L))) p = some (.lst (nvs L)) := upd_same
    generalize L2.upd H p (.lst (nvs L)) = H1 at s1 hM ⊢
    refine ⟨_, rfl, _, rfl, p, _, rfl, .inl (SqL.of hM), _, _, rfl, rfl, by rw [nvs_len]; omega, ?_⟩
    have hlt : n % L.length < L.length := Nat.mod_lt _ hl0
    show gName 3 (V.int ((n : Int) % ((nvs L).length : Int))) _ _ _
    refine asG (v1 := nv (n % L.length)) (by rw [nvs_len]; rfl) ?_
    refine ⟨_, rfl, _, rfl, p, _, _, _, rfl, rfl, SqL.of hM, at_k _ rfl hlt, _, _, rfl, rfl, _, rfl, _, _, rfl, rfl, ⟨by decide, by decide⟩, _, rfl, c, _, _, _, rfl, rfl, sT s1 r1, rfl, _, _, rfl, rfl, _, _, rfl, rfl, (by show (0 : Int) < (s : Int) - 1; omega), _, _, rfl, rfl, _, rfl, c, _, _, _, rfl, rfl, sT s1 r1, rfl, _, _, rfl, rfl, (by show (0 : Int) < (s : Int); omega), ?_⟩
    have ev : (((tb L (n % L.length) : Nat) : Int) + 1 + (n : Int) / 1024 % ((s : Int) - 1)) % (s : Int) = (((tb L (n % L.length) + 1 + n / 1024 % (s - 1)) % s : Nat) : Int) := by
      rw [show (s : Int) - 1 = ((s - 1 : Nat) : Int) by omega]
      rfl
    refine ⟨_, rfl, _, rfl, p, _, _, n % L.length, rfl, rfl, hM, ixN_n (by rw [nvs_len]; exact hlt), ?_⟩
    have s2 : Same H (L2.upd H1 p (.lst ((nvs L).set (n % L.length) (V.int ((((tb L (n % L.length) : Nat) : Int) + 1 + (n : Int) / 1024 % ((s : Int) - 1)) % (s : Int)))))) := sUp s1 hp
    have hM2 : (L2.upd H1 p (.lst ((nvs L).set (n % L.length) (V.int ((((tb L (n % L.length) : Nat) : Int) + 1 + (n : Int) / 1024 % ((s : Int) - 1)) % (s : Int)))))) p = some (.lst (nvs (spoilT L s n))) := by
      rw [upd_same, ev]
      unfold spoilT
      rw [← List.map_set]
    generalize L2.upd H1 p (.lst ((nvs L).set (n % L.length) (V.int ((((tb L (n % L.length) : Nat) : Int) + 1 + (n : Int) / 1024 % ((s : Int) - 1)) % (s : Int))))) = H2 at s2 hM2 ⊢
    refine ⟨_, rfl, c, _, _, _, rfl, rfl, sT s2 r1, rfl, _, rfl, c, _, _, _, rfl, rfl, sT s2 r1, rfl, _, rfl, p, _, rfl, .inl ⟨SqL.of hM2, fun u hu => ⟨by show 3 ≤ sizeLine; decide, fun v hv => ?_⟩⟩⟩
    have nuv : u ≠ v := fun e => by rw [← e, upd_same] at hv; cases hv
    have hv' : H2 v = none := by rw [upd_ne (Ne.symm nuv)] at hv; exact hv
    exact kk _ v (sUp (sUp s2 (s2.free hu)) (s2.free hv')) (s2.free hv') ⟨u, SqT.of upd_same, SqT.of (by rw [upd_ne nuv, upd_same])⟩

abbrev st__law_any : Stmt := top 58
theorem sc__law_any : FnScope ["_law_script", "_law_low_here", "_law_cell", "_law_signs", "_law_many", "_law_size", "_law_table", "_law_k", "_law_number"] ["_law_script", "_law_low_here"] (defScope st__law_any) := ⟨rfl, rfl, rfl, by decide +kernel, rfl, by decide +kernel, by decide +kernel⟩
def signL : List Nat := [2, 3, 4, 2, 3, 5, 2, 3, 4, 6, 2, 3, 7, 8, 9, 2]
def manyL : List Nat := [4, 3, 2, 2, 2, 2, 2, 2]
theorem signL_ok : ∀ k, k < 16 → 2 ≤ tb signL k ∧ tb signL k ≤ 9 := by decide
theorem manyL_ok : ∀ k, k < 8 → 1 ≤ tb manyL k ∧ tb manyL k ≤ 4 := by decide
theorem manyL_pow : ∀ s, s ≤ 9 → 2 ≤ s → ∀ m, m ≤ tb manyL (s - 2) → s ^ m ≤ 81 := by decide
/-- a new rule and its many -/
def NewRM (K : PySem.W.Frag) (H : Hp) (s m : Nat) (low : Int) (L : List Nat) (Q : VK) : Prop := ∀ (H' : Hp) (p r : Addr), Same H H' → H p = none → H r = none → H' p = some (.lst [.ref r, nv m]) → RuleAt K H' r s low L → Q (.ref p) H'
def sp_any (K : PySem.W.Frag) : Sp := fun vs H Q _ => ∃ (a : Addr) (low : Int) (ns : List Int), vs = [.ref a, .int low] ∧ SqL K H a (ns.map V.int) ∧ ns.length ≤ 2000000 ∧
  ∀ (s m : Nat) (L : List Nat), 2 ≤ s → s ≤ 9 → 1 ≤ m → m ≤ tb manyL (s - 2) → L.length = s ^ m → (∀ d ∈ L, d < s) → NewRM K H s m low L Q
theorem has_any (F : FunC K mg "_law_any" 58 ["_law_script", "_law_low_here"]) (T : Bt mg) (h__law_cell_at : Has P w K mg base 1 "_law_cell_at" ["_law_script", "_law_k"] (sp_cell_at K)) (h__law_power : Has P w K mg base 1 "_law_power" ["_law_signs", "_law_many"] sp_power) (h__law_stream : Has P w K mg base 1 "_law_stream" ["_law_cell", "_law_many"] sp_stream) : Has P w K mg base 2 "_law_any" ["_law_script", "_law_low_here"] (sp_any K) := by
  obtain ⟨_, _, G__law_cell_at, C__law_cell_at⟩ := h__law_cell_at
  obtain ⟨_, _, G__law_power, C__law_power⟩ := h__law_power
  obtain ⟨_, _, G__law_stream, C__law_stream⟩ := h__law_stream
  obtain ⟨f, fd, F, C⟩ := F
  refine ⟨f, fd, F.ok sc__law_any (fun vs H Q E h => ?_) (fun cdv A outer s H vs Q E hr h => ?_), C⟩
  · obtain ⟨a, low, ns, rfl, _⟩ := h
    rfl
  · obtain ⟨a, low, ns, rfl, hS, hlen, kk⟩ := h
    refine ⟨_, (pss_cons (ps_set (i := 2) sc__law_any.nd rfl (Or.inl rfl) (pe_op op_fdiv (pe_call G__law_cell_at hr rfl C__law_cell_at.mg C__law_cell_at.kp C__law_cell_at.b .nil pass0 (pa_cons (pv 0) (pa_cons pe_int pa_nil))) pe_int))
      (pss_cons (ps_set (i := 3) sc__law_any.nd rfl (Or.inr rfl) (pe_ix ix_list (pe_lst (pa_cons pe_int (pa_cons pe_int (pa_cons pe_int (pa_cons pe_int (pa_cons pe_int (pa_cons pe_int (pa_cons pe_int (pa_cons pe_int (pa_cons pe_int (pa_cons pe_int (pa_cons pe_int (pa_cons pe_int (pa_cons pe_int (pa_cons pe_int (pa_cons pe_int (pa_cons pe_int pa_nil))))))))))))))))) (pe_op op_mod (pv 2) pe_int) (fun _ _ => rfl)))
      (pss_cons (ps_set (i := 4) sc__law_any.nd rfl (Or.inl rfl) (pe_op op_add pe_int (pe_op op_mod (pe_op op_fdiv (pv 2) pe_int) (pe_ix ix_list (pe_lst (pa_cons pe_int (pa_cons pe_int (pa_cons pe_int (pa_cons pe_int (pa_cons pe_int (pa_cons pe_int (pa_cons pe_int (pa_cons pe_int pa_nil))))))))) (pe_op op_sub (pv 3) pe_int) (fun _ _ => rfl)))))
      (pss_cons (ps_set (i := 5) sc__law_any.nd rfl (Or.inl rfl) (pe_call G__law_power hr rfl C__law_power.mg C__law_power.kp C__law_power.b .nil pass0 (pa_cons (pv 3) (pa_cons (pv 4) pa_nil))))
      (pss_cons (ps_setLc (i := 6) (own := [("_law_number", 8)]) (g := gName 8) (tt := tYes) (by rfl) sc__law_any.nd rfl rfl (sw_true rfl rfl rfl (by decide +kernel)) (pi_list (pe_call G__law_stream hr rfl C__law_stream.mg C__law_stream.kp C__law_stream.b .nil pass0 (pa_cons (pe_call G__law_cell_at hr rfl C__law_cell_at.mg C__law_cell_at.kp C__law_cell_at.b .nil pass0 (pa_cons (pv 0) (pa_cons pe_int pa_nil))) (pa_cons (pv 5) pa_nil)))) (blkOk_by (own := [("_law_number", 8)]) (sc := defScope st__law_any) (N := ["_law_script", "_law_low_here", "_law_cell", "_law_signs", "_law_many", "_law_size", "_law_table", "_law_k", "_law_number"]) (by decide +kernel)) (fun _ _ _ _ _ => pg_name (i := 8) sc__law_any.nd rfl (Or.inl rfl)) (fun _ _ _ _ _ => pts_nil) (fun _ _ _ _ _ => (pe_op op_mod (pv 8) (pv 3))))
      (pss_cons (ps_for PassesOwn.never rfl (pi_range2 (by rfl) T.range (pa_cons pe_int (pa_cons (pe_callB call_len_seq (by rfl) T.len PySem.boot_len (pa_cons (pv 0) pa_nil)) pa_nil))) (pg_name (i := 7) sc__law_any.nd rfl (Or.inl rfl))
        (pss_one (ps_asg (pe_op op_mod (pe_op op_add (pe_ix ix_list (pv 6) (pe_op op_mod (pv 7) (pv 5)) (fun _ _ => rfl)) (pe_ix ix_list (pv 0) (pv 7) (fun _ _ => rfl))) (pv 3)) (pg_sub (pv 6) (pe_op op_mod (pv 7) (pv 5)) set_list))))
      (pss_one (ps_ret (pe_lst (pa_cons (pe_tup (pa_cons (pv 3) (pa_cons (pv 1) (pa_cons (pe_callTy call_tuple_of (by rfl) T.tuple (by decide +kernel) (pa_cons (pv 6) pa_nil)) pa_nil)))) (pa_cons (pv 4) pa_nil))))))))))), ?_⟩
    refine ⟨_, rfl, a, 0, ns, rfl, hS, _, _, rfl, rfl, ⟨by decide, by decide⟩, ?_⟩
    refine ⟨by show 16 ≤ sizeLine; decide, fun p hp => ?_⟩
    have s1 := sNew (o := .lst [V.int 2, V.int 3, V.int 4, V.int 2, V.int 3, V.int 5, V.int 2, V.int 3, V.int 4, V.int 6, V.int 2, V.int 3, V.int 7, V.int 8, V.int 9, V.int 2]) hp
    have hM : (L2.upd H p (.lst [V.int 2, V.int 3, V.int 4, V.int 2, V.int 3, V.int 5, V.int 2, V.int 3, V.int 4, V.int 6, V.int 2, V.int 3, V.int 7, V.int 8, V.int 9, V.int 2])) p = some (.lst (nvs signL)) := upd_same
    generalize L2.upd H p (.lst [V.int 2, V.int 3, V.int 4, V.int 2, V.int 3, V.int 5, V.int 2, V.int 3, V.int 4, V.int 6, V.int 2, V.int 3, V.int 7, V.int 8, V.int 9, V.int 2]) = H1 at s1 hM ⊢
    obtain ⟨ck, hck, hck2⟩ : ∃ k : Nat, (ns.getD 0 0 / 2) % 16 = (k : Int) ∧ k < 16 := by
      have h1 := Int.emod_nonneg (ns.getD 0 0 / 2) (b := 16) (by omega)
      have h2 := Int.emod_lt_of_pos (ns.getD 0 0 / 2) (b := 16) (by omega)
      exact ⟨((ns.getD 0 0 / 2) % 16).toNat, by omega, by omega⟩
    have hs := signL_ok ck hck2
    refine ⟨_, rfl, _, _, rfl, rfl, (by show (0 : Int) < 16; decide), p, _, _, _, rfl, rfl, SqL.of hM, at_k ck hck hck2, ?_⟩
    generalize tb signL ck = s at hs ⊢
    obtain ⟨hs2, hs9⟩ := hs
    refine ⟨_, rfl, _, _, rfl, rfl, ⟨by decide, by decide⟩, by show 8 ≤ sizeLine; decide, fun q hq => ?_⟩
    have s2 := s1.trans (sNew (o := .lst [V.int 4, V.int 3, V.int 2, V.int 2, V.int 2, V.int 2, V.int 2, V.int 2]) hq)
    have hM2 : (L2.upd H1 q (.lst [V.int 4, V.int 3, V.int 2, V.int 2, V.int 2, V.int 2, V.int 2, V.int 2])) q = some (.lst (nvs manyL)) := upd_same
    generalize L2.upd H1 q (.lst [V.int 4, V.int 3, V.int 2, V.int 2, V.int 2, V.int 2, V.int 2, V.int 2]) = H2 at s2 hM2 ⊢
    have hmk := manyL_ok (s - 2) (by omega)
    have hm8 : s - 2 < manyL.length := by show s - 2 < 8; omega
    have hpw := manyL_pow s hs9 hs2
    have kk := kk s
    refine ⟨_, rfl, _, _, rfl, rfl, q, _, _, _, rfl, rfl, SqL.of hM2, at_k (s - 2) (by omega) hm8, ?_⟩
    generalize tb manyL (s - 2) = mx at hmk hpw kk ⊢
    obtain ⟨mm, hmm, hmm2⟩ : ∃ k : Nat, (ns.getD 0 0 / 2) / 16 % (mx : Int) = (k : Int) ∧ k < mx := by
      have h1 := Int.emod_nonneg ((ns.getD 0 0 / 2) / 16) (b := (mx : Int)) (by omega)
      have h2 := Int.emod_lt_of_pos ((ns.getD 0 0 / 2) / 16) (b := (mx : Int)) (by omega)
      exact ⟨((ns.getD 0 0 / 2) / 16 % (mx : Int)).toNat, by omega, by omega⟩
    refine ⟨_, _, rfl, rfl, (by show (0 : Int) < (mx : Int); omega), _, _, rfl, rfl, ?_⟩
    show gName 4 (V.int (1 + ns.getD 0 0 / 2 / 16 % (mx : Int))) _ _ _
    refine asG (v1 := nv (1 + mm)) (by rw [hmm]; show V.int (1 + (mm : Int)) = V.int ((1 + mm : Nat) : Int); congr 1) ?_
    have hp81 := hpw (1 + mm) (by omega)
    have kk := kk (1 + mm)
    have hm1 : 1 ≤ 1 + mm := by omega
    have hmx : 1 + mm ≤ mx := by omega
    generalize 1 + mm = m at hp81 kk hm1 hmx ⊢
    refine ⟨_, rfl, _, rfl, s, m, rfl, hs9, by omega, ?_⟩
    refine ⟨_, rfl, a, 1, ns, rfl, s2.seq hS, _, rfl, ns.getD 1 0, s ^ m, rfl, by omega, fun H3 r s3 nr hr3 => ?_⟩
    have s3' := s2.trans s3
    have hsl : (strL (ns.getD 1 0) (s ^ m)).length = s ^ m := by
      unfold strL
      rw [List.length_map, List.length_range]
    generalize strL (ns.getD 1 0) (s ^ m) = xs at hr3 hsl
    refine ⟨r, rfl, ⟨_, SqL.of hr3⟩, fun D hD => ?_⟩
    have nrD : r ≠ D := ne_of_none hr3 hD
    refine lc_list (K := K) (a := r) (xs := nvs xs) (fun i H' => Same H H' ∧ H' r = some (.lst (nvs xs)) ∧ H' D = some (.lst (nvs ((xs.take i).map fun x => x % s)))) ⟨sUp s3' (s3'.free hD), by rw [upd_ne nrD]; exact hr3, upd_same⟩ (fun i H' _ ⟨_, h, _⟩ => SqL.of h) ?_ ?_
    · rintro i x H' hi ⟨sm, hr', hL⟩
      obtain ⟨n, hn, rfl⟩ := nvs_get hi
      have hil := (List.getElem?_eq_some_iff.mp hn).1
      refine ⟨rfl, _, rfl, _, rfl, _, _, rfl, rfl, (by show (0 : Int) < (s : Int); omega), _, hL, small_line (by rw [nvs_len, List.length_map, List.length_take]; omega), sUp sm (s3'.free hD), by rw [upd_ne nrD]; exact hr', ?_⟩
      rw [upd_same, List.take_add_one, hn]
      show some (HO.lst (nvs _ ++ [nv (n % s)])) = _
      rw [map_snoc, List.map_append]
      rfl
    · rintro H4 ⟨s4, hr4, hD4⟩
      have nD : H D = none := s3'.free hD
      have s5 : Same H H4 := fun b o e => s4 b o e
      refine ⟨_, rfl, a, _, rfl, .inl (s5.seq hS), _, _, rfl, ⟨by decide, by decide, by rw [List.length_map]; omega, by rw [List.length_map]; omega⟩, ?_⟩
      rw [List.length_map]
      have h0 : ∀ d ∈ xs.map (fun x => x % s), d < s := fun d hd => by
        obtain ⟨x, _, rfl⟩ := List.mem_map.mp hd
        exact Nat.mod_lt _ (by omega)
      refine for_range (lo := 4) (n := ((ns.length : Int) - 4).toNat) (fun i σ H' => ∃ u7 u8, σ = [some (.ref a), some (.int low), some (.int (ns.getD 0 0 / 2)), some (nv s), some (nv m), some (nv (s ^ m)), some (.ref D), u7, u8] ∧ Same H H' ∧ ∃ L : List Nat, H' D = some (.lst (nvs L)) ∧ L.length = s ^ m ∧ ∀ d ∈ L, d < s) ⟨none, none, rfl, s5, _, by rw [hD4, nvs_len, List.take_of_length_le (Nat.le_refl _)], by rw [List.length_map]; exact hsl, h0⟩ ?_ ?_
      · rintro i σ H' hi ⟨u7, u8, rfl, sm, L, hL, hLl, hLs⟩
        have hpos : 0 < s ^ m := Nat.pow_pos (by omega)
        have hlt : (4 + i) % s ^ m < L.length := by rw [hLl]; exact Nat.mod_lt _ hpos
        have hkk : 4 + i < ns.length := by omega
        have eix : (4 + (i : Int)) % ((s ^ m : Nat) : Int) = (((4 + i) % s ^ m : Nat) : Int) := rfl
        refine ⟨_, rfl, _, rfl, _, rfl, _, _, rfl, rfl, (by show (0 : Int) < ((s ^ m : Nat) : Int); omega), D, _, _, _, rfl, rfl, SqL.of hL, at_k ((4 + i) % s ^ m) eix hlt, _, rfl, _, rfl, a, _, _, _, rfl, rfl, sm.seq hS, at_of (j := 4 + i) rfl (by rw [List.getElem?_map, List.getElem?_eq_getElem hkk]; rfl), _, _, rfl, rfl, _, rfl, _, _, rfl, rfl, (by show (0 : Int) < (s : Int); omega), ?_⟩
        obtain ⟨d, hd, hd2⟩ : ∃ k : Nat, (((tb L ((4 + i) % s ^ m) : Nat) : Int) + ns[4 + i]) % (s : Int) = (k : Int) ∧ k < s := by
          have h1 := Int.emod_nonneg (((tb L ((4 + i) % s ^ m) : Nat) : Int) + ns[4 + i]) (b := (s : Int)) (by omega)
          have h2 := Int.emod_lt_of_pos (((tb L ((4 + i) % s ^ m) : Nat) : Int) + ns[4 + i]) (b := (s : Int)) (by omega)
          exact ⟨((((tb L ((4 + i) % s ^ m) : Nat) : Int) + ns[4 + i]) % (s : Int)).toNat, by omega, by omega⟩
        refine ⟨_, rfl, _, rfl, _, rfl, _, _, rfl, rfl, (by show (0 : Int) < ((s ^ m : Nat) : Int); omega), D, _, _, (4 + i) % s ^ m, rfl, rfl, hL, ixN_n (by rw [nvs_len]; exact hlt), ?_⟩
        refine ⟨_, _, rfl, sUp sm nD, L.set ((4 + i) % s ^ m) d, ?_, by rw [List.length_set]; exact hLl, fun x hx => ?_⟩
        · rw [upd_same]
          show some (HO.lst ((nvs L).set ((4 + i) % s ^ m) (V.int ((((tb L ((4 + i) % s ^ m) : Nat) : Int) + ns[4 + i]) % (s : Int))))) = _
          rw [hd, ← List.map_set]
        · rcases List.mem_or_eq_of_mem_set hx with h | h
          · exact hLs x h
          · rw [h]; exact hd2
      · rintro σ H' ⟨u7, u8, rfl, sm, L, hL, hLl, hLs⟩
        refine ⟨_, rfl, _, rfl, _, rfl, D, _, rfl, .inl ⟨SqL.of hL, fun u hu => ⟨by show 3 ≤ sizeLine; decide, fun v hv => ?_⟩⟩⟩
        have nuv : u ≠ v := fun e => by rw [← e, upd_same] at hv; cases hv
        have hv' : H' v = none := by rw [upd_ne (Ne.symm nuv)] at hv; exact hv
        refine ⟨_, rfl, by show 2 ≤ sizeLine; decide, fun z hz => ?_⟩
        have nvz : v ≠ z := fun e => by rw [← e, upd_same] at hz; cases hz
        have nuz : u ≠ z := ne_of_none (by rw [upd_ne nuv, upd_same]) hz
        have hz' : H' z = none := by rw [upd_ne (Ne.symm nvz), upd_ne (Ne.symm nuz)] at hz; exact hz
        refine kk L hs2 hs9 hm1 hmx hLl hLs _ z v (sUp (sUp (sUp sm (sm.free hu)) (sm.free hv')) (sm.free hz')) (sm.free hz') (sm.free hv') upd_same ⟨u, SqT.of (by rw [upd_ne nvz, upd_same]), SqT.of (by rw [upd_ne nuz, upd_ne nuv, upd_same])⟩
end
end K52
set_option Elab.async false
set_option linter.all false
set_option maxRecDepth 100000
set_option maxHeartbeats 2000000
/-! Rules of this claim's own: sorted(range(n), key=lambda k: xs[k] * c + k). -/
namespace K52
open PySem PySem.Spec PyProof.Rows PySem.W
def lamScope (k xs : Str) : Scope := { kind := .function, names := [(k, .local), (xs, .free)], isGenerator := false, isCoroutine := false, more := [] }
def lamArgs (k : Str) (pA : Pos) : Arguments := { posonlyargs := [], args := [{ arg := k, annotation := none, pos := pA }], vararg := none, kwonlyargs := [], kw_defaults := [], kwarg := none, defaults := [] }
def lamBody (p1 p2 p3 p4 p5 p6 p7 : Pos) : Expr := .BinOp (.BinOp (.Subscript (.Name "_law_xs" p1) (.Name "_law_k" p2) p3) .Mult (.Constant (.int 16) 0 p4) p5) .Add (.Name "_law_k" p6) p7
section
variable {prog : Program} {w : World} {A : Around} {E : Value → Shared → Prop} {s : Shared}
theorem lam_turn {f c' cx xa : Addr} {q : Str} {pm ctv : Value} {cl : List (Str × Addr)} {its : List Value} {i x : Nat} {t tx : Tok} {pA p1 p2 p3 p4 p5 p6 p7 : Pos}
    (hroom : A.depth < recursionLimit) (lim : s.heap.NoLimit)
    (ho : s.heap.get? f = some (kla_obj "<lambda>" q (lamArgs "_law_k" pA) (lamBody p1 p2 p3 p4 p5 p6 p7) (lamScope "_law_k" "_law_xs") cl pm c' ctv))
    (hcd : s.heap.CodeRec (.ref c') q) (hcl : cl.lookup ("_law_xs" : Str) = some cx) (hcell : s.heap.IsCell cx (some (.ref xa)))
    (hl : s.heap.IsList xa its.toArray) (hx : its[i]? = some (.int (x : Int) tx)) (hi : i < 1000000) :
    wpAny (model prog w) A (call (.ref f) [.int (i : Int) t]) (KeyPure (.int ((x : Int) * 16 + (i : Int))) s) (fun _ _ => False) s := by
  refine wpAny_call (kla_callFunE hroom ho rfl rfl rfl rfl hcd ?_)
  have hbind : bindArgs (kla_fn "<lambda>" q (lamArgs "_law_k" pA) (lamBody p1 p2 p3 p4 p5 p6 p7) (lamScope "_law_k" "_law_xs") cl pm (.ref c') ctv) ⟨[.int (i : Int) t], []⟩ = pure [(("_law_k" : Str), Value.int (i : Int) t)] := rfl
  rw [hbind]
  refine wpAny_pure (wpAny_newFunctionEnv (fun y hy => ?_) (fun y hy => ?_) (fun h₁ hns hsb => ⟨lim.fresh _ hsb, ?_⟩) rfl)
  · have hy : y = (("_law_k" : Str), NameKind.local) ∨ y = (("_law_xs" : Str), NameKind.free) := by simpa [lamScope] using hy
    rcases hy with rfl | rfl <;> decide
  · rw [List.mem_singleton.mp hy]
    rfl
  show codeAny _ _ (.expr (lamBody p1 p2 p3 p4 p5 p6 p7) (envX q (lamScope "_law_k" "_law_xs") s.heap.objs.size f (.ref c') cl)) _ _
  have kp : ∀ b o, s.heap.get? b = some o → h₁.get? b = some o := fun b o e => hsb.extBut b o (Nat.ne_of_lt (Heap.lt_size e)) (Heap.get?_push_of_some _ e)
  refine kla_codeExpr ?_
  have nmK : ∀ {E' : Value → Shared → Prop} {Q : Value → Shared → Prop} {p : Pos} {tk : Nat}, Q (.int (i : Int) t) { s with heap := h₁, toks := tk } → wpAny (model prog w) (A.deeper (envX q (lamScope "_law_k" "_law_xs") s.heap.objs.size f (.ref c') cl)) (eval (.Name "_law_k" p) (envX q (lamScope "_law_k" "_law_xs") s.heap.objs.size f (.ref c') cl)) Q E' { s with heap := h₁, toks := tk } :=
    fun hq => wpAny_Name (wpAny_loadName_local rfl rfl hns rfl hq)
  have hc1 : h₁.IsCell cx (some (.ref xa)) := by
    obtain ⟨o, h1, h2⟩ := hcell
    exact ⟨o, kp _ _ h1, h2⟩
  have hl1 : h₁.IsList xa its.toArray := by
    obtain ⟨o, h1, h2⟩ := hl
    exact ⟨o, kp _ _ h1, h2⟩
  unfold lamBody
  refine wpAny_BinOp (wpAny_BinOp (Subscript_ (wpAny_Name (wpAny_loadName_free rfl rfl hcl hc1 (nmK (item_listR (x := .int (x : Int) tx) hl1 (by omega) (by omega) (by simpa using hx) (wpAny_Constant_int (mul_int (nmK (add_int ?_)) ?_)))) ))))
  · exact ⟨h₁, _, rfl, kp, .int _ _⟩
  · exact L2.CMul.ok (.inr ⟨by decide, by decide⟩)
theorem sorted_range_key {r f : Addr} {n : Nat} {t u v : Tok} {k : Nat → Int} {Q : Value → Shared → Prop} (hh : A.handled = none) (hr : IsRange s.heap r 0 (n : Int) 1 t u v) (hn : n ≤ 1000) (hu : A.units + 20 < cLine)
    (turn : ∀ (i : Nat) (t : Tok), i < n → ∀ (h : Heap) (tk : Nat), (∀ b o, s.heap.get? b = some o → h.get? b = some o) → wpAny (model prog w) A.in1.in1 (call (.ref f) [.int (i : Int) t]) (KeyPure (.int (k i)) { s with heap := h, toks := tk }) (fun _ _ => False) { s with heap := h, toks := tk })
    (h : ∀ (p : Addr) (out : List Value) (ns : List Nat) (c : Nat) (h' : Heap) (tk : Nat), (∀ b o, s.heap.get? b = some o → h'.get? b = some o) → s.heap.get? p = none → h'.get? p = some (seqObj "list" out.toArray c) → ns.Perm (List.range n) → EachIs (fun (v : Value) (i : Nat) => ∃ t, v = Value.int (i : Int) t) out ns → Q (.ref p) { s with heap := h', toks := tk }) :
    wpAny (model prog w) A (call (.builtin "sorted") [.ref r] [(Str.ofString "key", .ref f)]) Q E s := by
  refine call_function_entry_kw kind_sorted plain_sorted entry_sorted (ksk_s1 _ _) ?_
  unfold Builtin.«sorted»
  refine wpAny_bind (m := checkCount "sorted" 1 1 _) (wpAny_pure ?_)
  have hsz : Builtin.Range.rangeSize 0 (n : Int) 1 = n := by
    rw [rangeSize_one]
    split <;> omega
  refine wpAny_bind (L2.collect_range (A := A.in1) (n := n) hh hr (small_one (by omega) (by omega) (by omega) (by omega)) hsz (by omega) (fun h1 tk1 acc hk1 hacc => ?_))
  have hal : acc.toList.length ≤ sizeLine := by
    rw [Array.length_toList, hacc.1, sizeLine_eq]
    omega
  refine wpAny_bind (wpAny_newList ?_ hal)
  have hE : EachIs (fun (v : Value) (i : Nat) => ∃ t, v = Value.int (i : Int) t) acc.toList (List.range n) := by
    refine EachIs.of_zip (by rw [Array.length_toList, hacc.1, List.length_range]) fun p hp => ?_
    obtain ⟨j, hj⟩ := List.mem_iff_getElem?.mp hp
    obtain ⟨e1, e2⟩ := List.getElem?_zip_eq_some.mp hj
    rw [Array.getElem?_toList] at e1
    obtain ⟨t3, e3⟩ := hacc.2 j p.1 e1
    have hj2 : j < n := by
      have := (List.getElem?_eq_some_iff.mp e2).1
      rwa [List.length_range] at this
    rw [List.getElem?_range hj2] at e2
    refine ⟨t3, ?_⟩
    rw [e3, ← Option.some.inj e2]
    congr 1
    omega
  have hat : ({ s with heap := h1.push { cls := .type "list", data := .seq acc.toList.toArray }, toks := tk1 } : Shared).heap.get? h1.objs.size = some (seqObj "list" acc.toList.toArray 0) := Heap.get?_push_size _ rfl
  refine wpAny_bind (wpAny_holding (wpAny_call_entry_kw slot_list_sort ⟨_, hat, rfl⟩ entry_list_sort ?_ (ksk_l1 _ _)))
  have up : ∀ {g : Heap}, KeepsBut h1.objs.size (h1.push { cls := .type "list", data := .seq acc.toList.toArray }) g → ∀ b o, s.heap.get? b = some o → g.get? b = some o := fun {g} kp b o q =>
    kp b o (Nat.ne_of_lt (Heap.lt_size (hk1 b o q))) (Heap.get?_push_of_some _ (hk1 b o q))
  have hsz1 : s.heap.get? h1.objs.size = none := by
    cases e : s.heap.get? h1.objs.size with
    | none => rfl
    | some o => exact absurd (Heap.lt_size (hk1 _ _ e)) (Nat.lt_irrefl _)
  have hmap : ∀ d ∈ (List.range n).map (fun i => PyData.int (k i)), ∃ z, d = PyData.int z := fun d hd => by
    obtain ⟨i, _, rfl⟩ := List.mem_map.mp hd
    exact ⟨_, rfl⟩
  show wpAny (model prog w) A.in1.in1 (Builtin.«list.sort» ⟨[.ref h1.objs.size], _⟩) _ _ _
  rw [ksk_t1]
  refine keyH_tree (kz := (List.range n).map fun i => PyData.int (k i)) hat (by rw [List.length_map]; exact hE.length.symm) hal (AllAlike.of fun _ _ => rfl) (.inr fun d hd => ?_) (fun d hd => ?_)
    (keyH_turns (s := { s with heap := h1.push { cls := .type "list", data := .seq acc.toList.toArray }, toks := tk1 }) hE fun v i hR hi h2 tk2 kp => ?_) fun h' tk out c kp hD ko => ?_
  · obtain ⟨z, rfl⟩ := hmap d hd
    refine ⟨fun e => ?_, fun xs e => ?_⟩ <;> cases e
  · obtain ⟨z, rfl⟩ := hmap d hd
    show A.units + 1 + 1 + 0 < cLine
    omega
  · obtain ⟨t2, rfl⟩ := hR
    exact turn i t2 (List.mem_range.mp hi) h2 tk2 (up kp)
  · refine ⟨_, rfl, wpAny_pure ⟨_, rfl, ?_⟩⟩
    exact h _ out _ c h' tk (up kp) hsz1 hD (List.mergeSort_perm _ _) (keyedOut_each (fun i => PyData.int (k i)) ko hE)
end
end K52
namespace K52
open PySem PySem.Spec PyProof.Rows L2 LamX
theorem vals_each {out : List Value} {ns : List Nat} (h : PySem.W.EachIs (fun (v : Value) (i : Nat) => ∃ t, v = Value.int (i : Int) t) out ns) : Vals (nvs ns) out := by
  induction h with
  | nil => exact .nil
  | cons h _ ih => exact .cons h ih
theorem tb_get0 {l : List Nat} {i : Nat} (h : i < l.length) : l[i]? = some (tb l i) := by
  unfold tb
  rw [List.getD_eq_getElem?_getD, List.getElem?_eq_getElem h]
  rfl
section
variable {X : Cx}
def tSortK (T : List (Addr × Str)) (K : PySem.W.Frag) (ix : Nat) (tn : TA) : TE := fun σ H Q => tn σ H fun vs H1 => ∃ (n : Nat) (xa : Addr) (xs : List Nat), vs = [nv n] ∧ n ≤ 1000 ∧ n ≤ xs.length ∧ σ[ix]? = some (some (.ref xa)) ∧ SqL K H1 xa (nvs xs) ∧ Tabs T H1 ∧
  ∀ (H2 : Hp) (p : Addr) (ns : List Nat), ExtN H1 H2 → Tabs T H2 → H2 p = none → ns.Perm (List.range n) → Q (.ref p) (L2.upd H2 p (.lst (nvs ns)))
theorem sql_ext {K : PySem.W.Frag} {H H' : Hp} {a : Addr} {xs : List V} (e : ExtN H H') (h : SqL K H a xs) : SqL K H' a xs := by
  rcases h with h | h
  · rcases h with h | ⟨o, h⟩
    · exact .inl (.inl (e _ _ h fun _ z => by cases z))
    · exact .inl (.inr ⟨o, e _ _ h fun _ z => by cases z⟩)
  · exact .inr h
theorem pe_sortK {T : List (Addr × Str)} {e : Expr} {tn : TA} {ix k : Nat} {c P : Addr} {p p2 p3 pos pA p1 q2 q3 q4 q5 q6 q7 lp kp : Pos} (hg : Gl X "sorted") (hm : X.mg "sorted" = none) (hg2 : Gl X "range") (hm2 : X.mg "range" = none) (he : PA X [e] tn)
    (hN : X.N[ix]? = some "_law_xs") (hv : X.env.scope.names.lookup ("_law_xs" : Str) = some .cell)
    (TB : TabB X.base X.mg c P) (hcode : X.env.code = .ref c) (hmT : (P, X.env.qual ++ "<lambda>") ∈ T) (hu : ∀ p ∈ T, p.1 = P → p.2 = X.env.qual ++ "<lambda>") (hr : Room k X.A)
    (hs : starEach [e] X.env = [(false, eval e X.env)] := by rfl)
    (hs2 : starEach [.Call (.Name "range" p2) [e] [] p3] X.env = (false, eval (.Call (.Name "range" p2) [e] [] p3) X.env) :: starEach [] X.env := by rfl) :
    PE X (.Call (.Name "sorted" p) [.Call (.Name "range" p2) [e] [] p3] [⟨some "key", .Lambda (lamArgs "_law_k" pA) (lamBody p1 q2 q3 q4 q5 q6 q7) (lamScope "_law_k" "_law_xs") lp, kp⟩] pos) (tSortK T X.K ix tn) := by
  refine ⟨fun pins s σ H Q I h => ?_⟩
  refine wpAny_Call_Name_kw (ld_blt I hg hm (show bootBuiltins "sorted" = some (Value.builtin "sorted") by decide +kernel) ?_)
  refine PyProof.Rows.callWith_kw (args_cons (Call_ (ld_blt I hg2 hm2 boot_range (PyProof.Rows.callWith_type1 (thn (he.run _ pins s σ H _ I h) fun us s1 ⟨vs, H1, I1, r1, q1⟩ => ?_) hs rfl))) hs2)
  obtain ⟨n, xa, xs, rfl, hn, hnl, hσ, hX, hT, q⟩ := q1
  obtain ⟨u, rfl, t, rfl⟩ := vals1 r1
  refine call_range_1 (args_nil ?_)
  have kept : ∀ b o, s1.heap.get? b = some o → (s1.heap.push { cls := .type "range", data := .fields #[.int 0 s1.toks, .int (n : Int) t, .int 1 (s1.toks + 1)] }).get? b = some o := fun b o e => Heap.get?_push_of_some _ e
  have hrn : (s1.heap.push { cls := .type "range", data := .fields #[.int 0 s1.toks, .int (n : Int) t, .int 1 (s1.toks + 1)] }).get? s1.heap.objs.size = some { cls := .type "range", data := .fields #[.int 0 s1.toks, .int (n : Int) t, .int 1 (s1.toks + 1)] } := Heap.get?_push_size _ rfl
  have nR : H1 s1.heap.objs.size = none := I1.hok.fresh (Nat.le_refl _)
  have I2 := I1.laid (a := s1.heap.objs.size) (o := .rng 0 (n : Int)) (t' := s1.toks + 1 + 1) kept (Nat.le_refl _) ⟨_, _, _, hrn⟩
  have e2 : ∀ b o, H1 b = some o → (L2.upd H1 s1.heap.objs.size (.rng 0 (n : Int))) b = some o := sNew nR
  refine wpAny_evalAll_cons (wpAny_bind (lam_make2 I2 TB hcode hmT hu (hT.ext e2) rfl (fun y hy hf => ?_) fun f c' pm ctv H2 s3 I3 eN T3 hf hfn hfr hco => wpAny_bind (wpAny_standAt (wpAny_pure (wpAny_evalAll_nil ?_)))))
  · have hy : y = (("_law_k" : Str), NameKind.local) ∨ y = (("_law_xs" : Str), NameKind.free) := by simpa [lamScope] using hy
    rcases hy with rfl | rfl
    · cases hf
    · exact I2.ok.has _ (.inl hv)
  · have hat2 : H2 s1.heap.objs.size = some (.rng 0 (n : Int)) := eN _ _ upd_same fun _ z => by cases z
    obtain ⟨t0, t1, t2, hR⟩ := I3.hok _ _ hat2
    have hX2 : SqL X.K H2 xa (nvs xs) := sql_ext eN (by
      rcases hX with h | h
      · rcases h with h | ⟨o, h⟩
        · exact .inl (.inl (e2 _ _ h))
        · exact .inl (.inr ⟨o, e2 _ _ h⟩)
      · exact .inr h)
    obtain ⟨its, rv, pl, hz⟩ := I3.list hX2
    obtain ⟨m, hns, hl⟩ := I3.loc
    obtain ⟨ux, rx, lk⟩ := hl ix "_law_xs" (.ref xa) hN hσ (.inr (.inl hv))
    obtain rfl : ux = Value.ref xa := rx
    obtain ⟨cx, hcx, hcell⟩ : ∃ cx, X.env.cells.lookup ("_law_xs" : Str) = some cx ∧ s3.heap.IsCell cx (some (.ref xa)) := by
      rcases lk with ⟨z, _⟩ | ⟨_, c2, z1, z2⟩
      · have z : X.env.scope.names.lookup ("_law_xs" : Str) = some .local := z
        rw [hv] at z
        cases z
      · exact ⟨c2, z1, z2⟩
    have hcl : (cloFrom X.env.cells (lamScope "_law_k" "_law_xs").names []).lookup ("_law_xs" : Str) = some cx := by
      rw [show cloFrom X.env.cells (lamScope "_law_k" "_law_xs").names [] = [(("_law_xs" : Str), (X.env.cells.lookup ("_law_xs" : Str)).getD 0)] from rfl, hcx]
      rfl
    refine sorted_range_key (k := fun i => ((tb xs i : Nat) : Int) * 16 + (i : Int)) hr.hd hR hn (by have := hr.un; omega) (fun i ti hi h tk hk => ?_) fun p out ns c3 h' tk hk hp hat hperm hE => ?_
    · have hlt : i < xs.length := by omega
      obtain ⟨w, ew, rw'⟩ := rv.get (i := i) (x := nv (tb xs i)) (by rw [List.getElem?_map, tb_get0 hlt]; rfl)
      obtain ⟨tx, rfl⟩ := rw'
      refine lam_turn (A := X.A.in1.in1) (s := { s3 with heap := h, toks := tk }) (cl := cloFrom X.env.cells (lamScope "_law_k" "_law_xs").names []) (its := its) (cx := cx) (xa := xa) (tx := tx) ?_ ?_ (hk _ _ hf) ?_ hcl ?_ ?_ ew (by omega)
      · have := hr.dp
        show X.A.depth < _
        omega
      · exact (I3.nolimit).keeps hk
      · obtain ⟨⟨oc, vs, t, h1, h2, h3⟩, _, _⟩ := I3.hok c' _ hco
        exact ⟨c', oc, vs, t, rfl, hk _ _ h1, h2, h3⟩
      · obtain ⟨o, h1, h2⟩ := hcell
        exact ⟨o, hk _ _ h1, h2⟩
      · obtain ⟨o, h1, h2⟩ := pl.isList
        exact ⟨o, hk _ _ h1, h2⟩
    · have hg : H2 p = none := I3.hok.gone hp
      have hlen : (nvs ns).length ≤ sizeLine := by
        rw [nvs_len, hperm.length_eq, List.length_range]
        exact Nat.le_of_lt (small_line (by omega))
      refine ⟨.ref p, L2.upd H2 p (.lst (nvs ns)), I3.laidN (t' := tk) hk hp hg ⟨hlen, out, c3, vals_each hE, hat⟩, rfl, q H2 p ns (fun b o h z => eN b o (e2 b o h) z) T3 hg hperm⟩
end
end K52
set_option Elab.async false
set_option maxRecDepth 100000
namespace K52
open PySem L2 LamX
theorem seqCut {a b : TS} {D : Ends} {σ : L2.St} {H : Hp} (Pn : L2.St → Hp → Prop) (hn : ∀ σ H, Pn σ H → b D σ H) (h : ∀ N : L2.St → Hp → Prop, (∀ σ H, Pn σ H → N σ H) → a { D with nx := N } σ H) : tSeq a b D σ H := h (b D) hn
def kindL : List Nat := [0, 1, 1, 2, 2, 3, 4, 5, 6, 6, 3, 4, 6, 1]
def sg1L : List Nat := [4, 4, 6, 4, 4, 8, 6, 9]
def sg2L : List Nat := [3, 4, 5, 3, 4, 3, 6, 7]
def sg4L : List Nat := [4, 4, 8, 9]
def sg6L : List Nat := [5, 6, 5, 7]
def mnL : List Nat := [1, 2, 2, 4, 2, 2, 2]
def sgA (kind p8 : Nat) : Nat := if kind = 1 then tb sg1L p8 else 2 + p8
def sgB (kind p8 : Nat) : Nat := if kind = 2 then tb sg2L p8 else sgA kind p8
def sgC (kind p8 p4 : Nat) : Nat := if 2 < kind then tb [2, tb sg4L p4, 8, tb sg6L p4] (kind - 3) else sgB kind p8
theorem kindL_ok : ∀ k, k < 14 → tb kindL k ≤ 6 := by decide
theorem fam_of0 : ((List.range 7).all fun kind => (List.range 8).all fun p8 => (List.range 4).all fun p4 => decide ((kind, sgC kind p8 p4, tb mnL kind) ∈ famL)) = true := by decide +kernel
theorem fam_of (kind : Nat) (h1 : kind < 7) (p8 : Nat) (h2 : p8 < 8) (p4 : Nat) (h3 : p4 < 4) : (kind, sgC kind p8 p4, tb mnL kind) ∈ famL := by
  have a := List.all_eq_true.mp fam_of0 kind (List.mem_range.mpr h1)
  have b := List.all_eq_true.mp a p8 (List.mem_range.mpr h2)
  exact of_decide_eq_true (List.all_eq_true.mp b p4 (List.mem_range.mpr h3))
theorem gN {i : Nat} {v : V} {σ : L2.St} {H : Hp} {N : L2.St → Hp → Prop} (h : N (σ.set i (some v)) H) : gName i v σ H N := h
/-- a def whose code object we know -/
def FunCode (K : PySem.W.Frag) (mg : Str → Option Value) (x : Str) (i : Nat) (c : Addr) (ps : List Str) : Prop := ∃ (f : Addr) (oc : Value) (od : Option Addr) (kV doc pm : Value) (an : Option Addr) (ct : Value) (osl : Array (Option Value)),
  K.lookup f = some ⟨oc, od, .func (PySem.W.fnOf x x (defArgs (top i)) (defBody (top i)) (defScope (top i)) .none kV doc pm an (.ref c) ct), osl⟩ ∧ PySem.W.codeIn K (.ref c) x = true ∧ Cal K mg x f (PySem.W.fnOf x x (defArgs (top i)) (defBody (top i)) (defScope (top i)) .none kV doc pm an (.ref c) ct) ps
theorem emodN (z : Int) (m : Nat) (hm : 0 < m) : ∃ k : Nat, z % (m : Int) = (k : Int) ∧ k < m := by
  have h1 := Int.emod_nonneg z (b := (m : Int)) (by omega)
  have h2 := Int.emod_lt_of_pos z (b := (m : Int)) (by omega)
  exact ⟨(z % (m : Int)).toNat, by omega, by omega⟩
section
variable {P : Program} {w : World} {K : PySem.W.Frag} {mg : Str → Option Value} {base : Heap}
abbrev st__law_core : Stmt := top 50
theorem sc__law_core : FnScope ["_law_first", "_law_second", "_law_low_here", "_law_kind", "_law_part", "_law_signs", "_law_many", "_law_xs", "_law_names", "_law_words", "_law_table", "_law_k", "_law_word_here"] ["_law_first", "_law_second", "_law_low_here"] (defScope st__law_core) := ⟨rfl, rfl, rfl, by decide +kernel, rfl, by decide +kernel, by decide +kernel⟩
abbrev lamT (Pt : Addr) : List (Addr × Str) := [(Pt, ("_law_core" ++ ".<locals>." : Str) ++ "<lambda>")]
def sp_core (K : PySem.W.Frag) (Pt : Addr) : Sp := fun vs H Q _ => ∃ (first second low : Int), vs = [.int first, .int second, .int low] ∧ Tabs (lamT Pt) H ∧
  ∀ (kind s m x10 x11 x12 x13 x14 : Nat) (names : List Nat), Fam kind s m → names.Perm (List.range s) → ∀ (H' : Hp) (p r : Addr), ExtN H H' → H' p = some (.lst [.ref r, nv m]) → RuleAt K H' r s low (coreT kind s m x10 x11 x12 x13 x14 names) → Q (.ref p) H'
theorem has_core {c Pt : Addr} (F : FunCode K mg "_law_core" 50 c ["_law_first", "_law_second", "_law_low_here"]) (TB : TabB base mg c Pt) (T : Bt mg) (h__law_stream : Has P w K mg base 2 "_law_stream" ["_law_cell", "_law_many"] sp_stream) (h__law_power : Has P w K mg base 2 "_law_power" ["_law_signs", "_law_many"] sp_power) (h__law_word : Has P w K mg base 2 "_law_word" ["_law_number", "_law_signs", "_law_many"] sp_word) (h__law_told : Has P w K mg base 2 "_law_told" ["_law_kind", "_law_signs", "_law_xs", "_law_word_here"] (sp_told K)) : Has P w K mg base 3 "_law_core" ["_law_first", "_law_second", "_law_low_here"] (sp_core K Pt) := by
  obtain ⟨_, _, G__law_stream, C__law_stream⟩ := h__law_stream
  obtain ⟨_, _, G__law_power, C__law_power⟩ := h__law_power
  obtain ⟨_, _, G__law_word, C__law_word⟩ := h__law_word
  obtain ⟨_, _, G__law_told, C__law_told⟩ := h__law_told
  obtain ⟨f, oc, od, kV, doc, pm, an, ct, osl, lk, hcd, C⟩ := F
  refine ⟨f, _, fn_of lk hcd sc__law_core (fun vs H Q E h => ?_) (fun A outer s H vs Q E hr h => ?_), C⟩
  · obtain ⟨a, b, c, rfl, _⟩ := h
    rfl
  · obtain ⟨first, second, low, rfl, hT, kk⟩ := h
    suffices hx : ∃ t, PSs (cxOf CX0 P w K mg base ["_law_first", "_law_second", "_law_low_here", "_law_kind", "_law_part", "_law_signs", "_law_many", "_law_xs", "_law_names", "_law_words", "_law_table", "_law_k", "_law_word_here"] "_law_core" (defScope st__law_core) f (.ref c) A outer s H E).nox (defBody st__law_core) t ∧ t { nx := fun _ H' => Q .non H', rt := Q } (L2.start ["_law_first", "_law_second", "_law_low_here", "_law_kind", "_law_part", "_law_signs", "_law_many", "_law_xs", "_law_names", "_law_words", "_law_table", "_law_k", "_law_word_here"] [.int first, .int second, .int low]) H by
      obtain ⟨t, h, q⟩ := hx
      exact ⟨t, h.nox, q⟩
    refine ⟨_, (pss_cons (ps_set (i := 3) sc__law_core.nd rfl (Or.inr rfl) (pe_ix ix_list (pe_lst (pa_cons pe_int (pa_cons pe_int (pa_cons pe_int (pa_cons pe_int (pa_cons pe_int (pa_cons pe_int (pa_cons pe_int (pa_cons pe_int (pa_cons pe_int (pa_cons pe_int (pa_cons pe_int (pa_cons pe_int (pa_cons pe_int (pa_cons pe_int pa_nil))))))))))))))) (pe_op op_mod (pv 0) pe_int) (fun _ _ => rfl)))
      (pss_cons (ps_set (i := 4) sc__law_core.nd rfl (Or.inl rfl) (pe_op op_fdiv (pv 0) pe_int))
      (pss_cons (ps_set (i := 5) sc__law_core.nd rfl (Or.inr rfl) (pe_op op_add pe_int (pe_op op_mod (pv 4) pe_int)))
      (pss_cons (ps_if (pt_cmpR op_eq (pv 3) pe_int (nomark _))
        (pss_one (ps_set (i := 5) sc__law_core.nd rfl (Or.inr rfl) (pe_ix ix_list (pe_lst (pa_cons pe_int (pa_cons pe_int (pa_cons pe_int (pa_cons pe_int (pa_cons pe_int (pa_cons pe_int (pa_cons pe_int (pa_cons pe_int pa_nil))))))))) (pe_op op_mod (pv 4) pe_int) (fun _ _ => rfl))))
        pss_nil)
      (pss_cons (ps_if (pt_cmpR op_eq (pv 3) pe_int (nomark _))
        (pss_one (ps_set (i := 5) sc__law_core.nd rfl (Or.inr rfl) (pe_ix ix_list (pe_lst (pa_cons pe_int (pa_cons pe_int (pa_cons pe_int (pa_cons pe_int (pa_cons pe_int (pa_cons pe_int (pa_cons pe_int (pa_cons pe_int pa_nil))))))))) (pe_op op_mod (pv 4) pe_int) (fun _ _ => rfl))))
        pss_nil)
      (pss_cons (ps_if (pt_cmpR op_gt (pv 3) pe_int (nomark _))
        (pss_one (ps_set (i := 5) sc__law_core.nd rfl (Or.inr rfl) (pe_ix ix_list (pe_lst (pa_cons pe_int (pa_cons (pe_ix ix_list (pe_lst (pa_cons pe_int (pa_cons pe_int (pa_cons pe_int (pa_cons pe_int pa_nil))))) (pe_op op_mod (pv 4) pe_int) (fun _ _ => rfl)) (pa_cons pe_int (pa_cons (pe_ix ix_list (pe_lst (pa_cons pe_int (pa_cons pe_int (pa_cons pe_int (pa_cons pe_int pa_nil))))) (pe_op op_mod (pv 4) pe_int) (fun _ _ => rfl)) pa_nil))))) (pe_op op_sub (pv 3) pe_int) (fun _ _ => rfl))))
        pss_nil)
      (pss_cons (ps_set (i := 6) sc__law_core.nd rfl (Or.inr rfl) (pe_ix ix_list (pe_lst (pa_cons pe_int (pa_cons pe_int (pa_cons pe_int (pa_cons pe_int (pa_cons pe_int (pa_cons pe_int (pa_cons pe_int pa_nil)))))))) (pv 3) (fun _ _ => rfl)))
      (pss_cons (ps_set (i := 7) sc__law_core.nd rfl (Or.inr rfl) (pe_call G__law_stream hr rfl C__law_stream.mg C__law_stream.kp C__law_stream.b .nil pass0 (pa_cons (pv 1) (pa_cons pe_int pa_nil))))
      (pss_cons (ps_set (i := 8) sc__law_core.nd rfl (Or.inr rfl) (pe_sortK (ix := 7) (T := [(Pt, ("_law_core" ++ ".<locals>." : Str) ++ "<lambda>")]) (by rfl) T.sorted (by rfl) T.range (pa_cons (pv 5) pa_nil) rfl rfl TB rfl List.mem_cons_self (fun p hp _ => by rw [List.mem_singleton.mp hp]; rfl) hr))
      (pss_cons (ps_setLc (i := 9) (own := [("_law_k", 11)]) (g := gName 11) (tt := tYes) (by rfl) sc__law_core.nd rfl rfl (sw_true rfl rfl rfl (by decide +kernel)) (pi_range1 (by rfl) T.range (pa_cons (pe_call G__law_power hr rfl C__law_power.mg C__law_power.kp C__law_power.b .nil pass0 (pa_cons (pv 5) (pa_cons (pv 6) pa_nil))) pa_nil)) (blkOk_by (sc := defScope st__law_core) (own := [("_law_k", 11)]) (N := ["_law_first", "_law_second", "_law_low_here", "_law_kind", "_law_part", "_law_signs", "_law_many", "_law_xs", "_law_names", "_law_words", "_law_table", "_law_k", "_law_word_here"]) (by decide +kernel)) (fun _ _ _ _ _ => pg_name (i := 11) sc__law_core.nd rfl (Or.inl rfl)) (fun _ _ _ _ _ => pts_nil) (fun _ _ _ _ _ => (pe_call G__law_word hr rfl C__law_word.mg C__law_word.kp C__law_word.b .nil pass0 (pa_cons (pv 11) (pa_cons (pv 5) (pa_cons (pv 6) pa_nil))))))
      (pss_cons (ps_setLc (i := 10) (own := [("_law_word_here", 12)]) (g := gName 12) (tt := tYes) (by rfl) sc__law_core.nd rfl rfl (sw_true rfl rfl rfl (by decide +kernel)) (pi_list (pv 9)) (blkOk_by (sc := defScope st__law_core) (own := [("_law_word_here", 12)]) (N := ["_law_first", "_law_second", "_law_low_here", "_law_kind", "_law_part", "_law_signs", "_law_many", "_law_xs", "_law_names", "_law_words", "_law_table", "_law_k", "_law_word_here"]) (by decide +kernel)) (fun _ _ _ _ _ => pg_name (i := 12) sc__law_core.nd rfl (Or.inl rfl)) (fun _ _ _ _ _ => pts_nil) (fun _ _ _ _ _ => (pe_ix (show IxR _ (rIxL K) from ix_list) (pv 8) (pe_call G__law_told hr rfl C__law_told.mg C__law_told.kp C__law_told.b .nil pass0 (pa_cons (pv 3) (pa_cons (pv 5) (pa_cons (pv 7) (pa_cons (pv 12) pa_nil))))) (fun _ _ => rfl))))
      (pss_one (ps_ret (pe_lst (pa_cons (pe_tup (pa_cons (pv 5) (pa_cons (pv 2) (pa_cons (pe_callTy call_tuple_of (by rfl) T.tuple (by decide +kernel) (pa_cons (pv 10) pa_nil)) pa_nil)))) (pa_cons (pv 6) pa_nil)))))))))))))))), ?_⟩
    refine ⟨by show 14 ≤ sizeLine; decide, fun p hp => ?_⟩
    have s1 := sNew (o := .lst [V.int 0, V.int 1, V.int 1, V.int 2, V.int 2, V.int 3, V.int 4, V.int 5, V.int 6, V.int 6, V.int 3, V.int 4, V.int 6, V.int 1]) hp
    have hM : (L2.upd H p (.lst [V.int 0, V.int 1, V.int 1, V.int 2, V.int 2, V.int 3, V.int 4, V.int 5, V.int 6, V.int 6, V.int 3, V.int 4, V.int 6, V.int 1])) p = some (.lst (nvs kindL)) := upd_same
    generalize L2.upd H p (.lst [V.int 0, V.int 1, V.int 1, V.int 2, V.int 2, V.int 3, V.int 4, V.int 5, V.int 6, V.int 6, V.int 3, V.int 4, V.int 6, V.int 1]) = H1 at s1 hM ⊢
    obtain ⟨k14, hk14, hk14b⟩ := emodN first 14 (by decide)
    have hk6 := kindL_ok k14 hk14b
    refine ⟨_, rfl, _, _, rfl, rfl, (by show (0 : Int) < 14; decide), p, _, _, _, rfl, rfl, SqL.of hM, at_k k14 hk14 hk14b, ?_⟩
    generalize tb kindL k14 = kind at hk6 ⊢
    refine ⟨_, rfl, _, _, rfl, rfl, ⟨by decide, by decide⟩, ?_⟩
    obtain ⟨p8, hp8, hp8b⟩ := emodN (first / 14) 8 (by decide)
    obtain ⟨p4, hp4, hp4b⟩ := emodN (first / 14) 4 (by decide)
    refine ⟨_, rfl, _, _, rfl, rfl, (by show (0 : Int) < 8; decide), _, _, rfl, rfl, ?_⟩
    show gName 5 (V.int (2 + first / 14 % 8)) _ _ _
    refine asG (v1 := nv (2 + p8)) (by rw [show (first / 14 % 8 : Int) = (p8 : Int) from hp8]; show V.int (2 + (p8 : Int)) = V.int ((2 + p8 : Nat) : Int); congr 1) ?_
    refine gN ?_
    dsimp only
    refine seqCut (fun σ H' => σ = [some (.int first), some (.int second), some (.int low), some (nv kind), some (.int (first / 14)), some (nv (sgA kind p8)), none, none, none, none, none, none, none] ∧ Same H H') ?_ ?_
    rotate_left
    · intro N hN
      refine ⟨_, rfl, rfl, _, rfl, ?_⟩
      refine if2 (fun h => ?_) (fun h => ?_)
      · have h' : kind = 1 := (nv_eq (b := 1)).mp h
        refine ⟨by show 8 ≤ sizeLine; decide, fun q hq => ?_⟩
        have s2 := s1.trans (sNew (o := .lst [V.int 4, V.int 4, V.int 6, V.int 4, V.int 4, V.int 8, V.int 6, V.int 9]) hq)
        have hM2 : (L2.upd H1 q (.lst [V.int 4, V.int 4, V.int 6, V.int 4, V.int 4, V.int 8, V.int 6, V.int 9])) q = some (.lst (nvs sg1L)) := upd_same
        generalize L2.upd H1 q (.lst [V.int 4, V.int 4, V.int 6, V.int 4, V.int 4, V.int 8, V.int 6, V.int 9]) = H2 at s2 hM2 ⊢
        refine ⟨_, rfl, _, _, rfl, rfl, (by show (0 : Int) < 8; decide), q, _, _, _, rfl, rfl, SqL.of hM2, at_k p8 hp8 hp8b, ?_⟩
        refine hN _ _ ⟨?_, s2⟩
        unfold sgA
        rw [if_pos h']
        rfl
      · have h' : ¬ kind = 1 := fun e => h ((nv_eq (b := 1)).mpr e)
        refine hN _ _ ⟨?_, s1⟩
        unfold sgA
        rw [if_neg h']
        rfl
    rintro σ H2 ⟨rfl, s2⟩
    clear s1 hM
    refine seqCut (fun σ H' => σ = [some (.int first), some (.int second), some (.int low), some (nv kind), some (.int (first / 14)), some (nv (sgB kind p8)), none, none, none, none, none, none, none] ∧ Same H H') ?_ ?_
    rotate_left
    · intro N hN
      refine ⟨_, rfl, rfl, _, rfl, ?_⟩
      refine if2 (fun h => ?_) (fun h => ?_)
      · have h' : kind = 2 := (nv_eq (b := 2)).mp h
        refine ⟨by show 8 ≤ sizeLine; decide, fun q hq => ?_⟩
        have s3 := s2.trans (sNew (o := .lst [V.int 3, V.int 4, V.int 5, V.int 3, V.int 4, V.int 3, V.int 6, V.int 7]) hq)
        have hM2 : (L2.upd H2 q (.lst [V.int 3, V.int 4, V.int 5, V.int 3, V.int 4, V.int 3, V.int 6, V.int 7])) q = some (.lst (nvs sg2L)) := upd_same
        generalize L2.upd H2 q (.lst [V.int 3, V.int 4, V.int 5, V.int 3, V.int 4, V.int 3, V.int 6, V.int 7]) = H3 at s3 hM2 ⊢
        refine ⟨_, rfl, _, _, rfl, rfl, (by show (0 : Int) < 8; decide), q, _, _, _, rfl, rfl, SqL.of hM2, at_k p8 hp8 hp8b, ?_⟩
        refine hN _ _ ⟨?_, s3⟩
        unfold sgB
        rw [if_pos h']
        rfl
      · have h' : ¬ kind = 2 := fun e => h ((nv_eq (b := 2)).mpr e)
        refine hN _ _ ⟨?_, s2⟩
        unfold sgB
        rw [if_neg h']
    rintro σ H3 ⟨rfl, s3⟩
    clear s2
    refine seqCut (fun σ H' => σ = [some (.int first), some (.int second), some (.int low), some (nv kind), some (.int (first / 14)), some (nv (sgC kind p8 p4)), none, none, none, none, none, none, none] ∧ Same H H') ?_ ?_
    rotate_left
    · intro N hN
      refine ⟨_, rfl, _, _, rfl, rfl, _, rfl, ?_⟩
      refine if2 (fun h => ?_) (fun h => ?_)
      · have h : (2 : Int) < (kind : Int) := h
        have h' : 2 < kind := by omega
        refine ⟨by show 4 ≤ sizeLine; decide, fun q hq => ?_⟩
        have s4 := s3.trans (sNew (o := .lst [V.int 4, V.int 4, V.int 8, V.int 9]) hq)
        have hM4 : (L2.upd H3 q (.lst [V.int 4, V.int 4, V.int 8, V.int 9])) q = some (.lst (nvs sg4L)) := upd_same
        generalize L2.upd H3 q (.lst [V.int 4, V.int 4, V.int 8, V.int 9]) = H4 at s4 hM4 ⊢
        refine ⟨_, rfl, _, _, rfl, rfl, (by show (0 : Int) < 4; decide), q, _, _, _, rfl, rfl, SqL.of hM4, at_k p4 hp4 hp4b, ?_⟩
        refine ⟨by show 4 ≤ sizeLine; decide, fun q2 hq2 => ?_⟩
        have s5 := s4.trans (sNew (o := .lst [V.int 5, V.int 6, V.int 5, V.int 7]) hq2)
        have hM5 : (L2.upd H4 q2 (.lst [V.int 5, V.int 6, V.int 5, V.int 7])) q2 = some (.lst (nvs sg6L)) := upd_same
        generalize L2.upd H4 q2 (.lst [V.int 5, V.int 6, V.int 5, V.int 7]) = H5 at s5 hM5 ⊢
        refine ⟨_, rfl, _, _, rfl, rfl, (by show (0 : Int) < 4; decide), q2, _, _, _, rfl, rfl, SqL.of hM5, at_k p4 hp4 hp4b, ?_⟩
        refine ⟨by show 4 ≤ sizeLine; decide, fun q3 hq3 => ?_⟩
        have s6 := s5.trans (sNew (o := .lst (nvs [2, tb sg4L p4, 8, tb sg6L p4])) hq3)
        have hM6 : (L2.upd H5 q3 (.lst (nvs [2, tb sg4L p4, 8, tb sg6L p4]))) q3 = some (.lst (nvs [2, tb sg4L p4, 8, tb sg6L p4])) := upd_same
        refine ⟨_, rfl, _, _, rfl, rfl, q3, _, _, _, rfl, rfl, SqL.of hM6, at_k (kind - 3) (by omega) (by show kind - 3 < 4; omega), ?_⟩
        refine hN _ _ ⟨?_, s6⟩
        unfold sgC
        rw [if_pos h']
        rfl
      · have h : ¬ (2 : Int) < (kind : Int) := h
        refine hN _ _ ⟨?_, s3⟩
        unfold sgC
        rw [if_neg (by omega)]
    rintro σ H4 ⟨rfl, s4⟩
    clear s3
    have hfam := fam_of kind (by omega) p8 hp8b p4 hp4b
    generalize sgC kind p8 p4 = s at hfam ⊢
    refine ⟨by show 7 ≤ sizeLine; decide, fun q hq => ?_⟩
    have s5 := s4.trans (sNew (o := .lst [V.int 1, V.int 2, V.int 2, V.int 4, V.int 2, V.int 2, V.int 2]) hq)
    have hM5 : (L2.upd H4 q (.lst [V.int 1, V.int 2, V.int 2, V.int 4, V.int 2, V.int 2, V.int 2])) q = some (.lst (nvs mnL)) := upd_same
    generalize L2.upd H4 q (.lst [V.int 1, V.int 2, V.int 2, V.int 4, V.int 2, V.int 2, V.int 2]) = H5 at s5 hM5 ⊢
    refine ⟨_, rfl, q, _, _, _, rfl, rfl, SqL.of hM5, at_k kind rfl (by show kind < 7; omega), ?_⟩
    generalize tb mnL kind = m at hfam ⊢
    have ok := Fam.ok hfam
    have hs2 := ok.s2
    have hs9 := ok.s9
    have h81 := ok.p81
    have hm4 := ok.m4
    have hm1 := ok.m1
    refine ⟨_, rfl, second, 15, rfl, by omega, fun H6 xa s6 nx hX => ?_⟩
    have hxl : (strL second 15).length = 15 := by
      unfold strL
      rw [List.length_map, List.length_range]
    generalize strL second 15 = xs at hX hxl
    have s56 := s5.trans s6
    refine ⟨_, rfl, s, xa, xs, rfl, by omega, by omega, rfl, SqL.of hX, hT.ext s56, fun H7 pn names e7 T7 np hperm => ?_⟩
    have nl : names.length = s := by rw [hperm.length_eq, List.length_range]
    have e8 : ExtN H (L2.upd H7 pn (.lst (nvs names))) := fun b o h n => by
      have h7 := e7 b o (s56 b o h) n
      rw [upd_ne (ne_of_none h7 np)]
      exact h7
    have hX8 : (L2.upd H7 pn (.lst (nvs names))) xa = some (.lst (nvs xs)) := by
      have h7 := e7 _ _ hX (fun _ z => by cases z)
      rw [upd_ne (ne_of_none h7 np)]
      exact h7
    have hN8 : (L2.upd H7 pn (.lst (nvs names))) pn = some (.lst (nvs names)) := upd_same
    generalize L2.upd H7 pn (.lst (nvs names)) = H8 at e8 hX8 hN8 ⊢
    refine ⟨_, rfl, _, rfl, s, m, rfl, hs9, by omega, _, rfl, by omega, by omega, fun D hD => ?_⟩
    refine lc_range0 (n := s ^ m) (fun i H' => Same H8 H' ∧ ∃ ps : List Addr, ps.length = i ∧ H' D = some (.lst (ps.map V.ref)) ∧ ∀ j q, ps[j]? = some q → H' q = some (.lst (nvs (wordN s m j)))) ⟨sNew hD, [], rfl, upd_same, fun j q hj => by cases hj⟩ ?_ ?_
    · rintro i H' hi ⟨sm, ps, hpl, hL, hps⟩
      refine ⟨rfl, _, rfl, _, rfl, _, rfl, i, s, m, rfl, by omega, hs9, by omega, fun H2 w s2 nw hw => ?_⟩
      refine ⟨_, s2 _ _ hL, small_line (by rw [List.length_map]; omega), sUp (sm.trans s2) hD, ps ++ [w], by simp [hpl], by rw [upd_same, List.map_append]; rfl, fun j q hj => ?_⟩
      have hwD : w ≠ D := fun e => by rw [e] at nw; rw [hL] at nw; cases nw
      rcases Nat.lt_or_ge j ps.length with hlt | hge
      · rw [List.getElem?_append_left hlt] at hj
        have h1 := s2 _ _ (hps j q hj)
        have hqD : q ≠ D := fun e => by
          rw [e] at h1
          have h2 := s2 _ _ hL
          rw [h1] at h2
          have h3 : nvs (wordN s m j) = ps.map V.ref := HO.lst.inj (Option.some.inj h2)
          have h4 : ps ≠ [] := fun z => by rw [z] at hlt; exact absurd hlt (Nat.not_lt_zero _)
          have h5 : (wordN s m j) ≠ [] := fun z => by rw [z] at h3; cases ps with
            | nil => exact h4 rfl
            | cons a l => cases h3
          cases hw : wordN s m j with
          | nil => exact h5 hw
          | cons a l =>
            rw [hw] at h3
            cases ps with
            | nil => exact h4 rfl
            | cons b l2 => cases h3
        rw [upd_ne hqD]
        exact h1
      · rw [List.getElem?_append_right hge] at hj
        have hj0 : j - ps.length = 0 := by
          have := (List.getElem?_eq_some_iff.mp hj).1
          simp at this
          omega
        have hji : j = i := by omega
        rw [hj0] at hj
        have hq : w = q := by simpa using hj
        rw [← hq, upd_ne hwD, hji]
        exact hw
    · rintro H9 ⟨s9, ps, hpl, hL9, hps9⟩
      refine ⟨_, rfl, D, rfl, ⟨_, SqL.of hL9⟩, fun D2 hD2 => ?_⟩
      have nDD : D ≠ D2 := ne_of_none hL9 hD2
      refine lc_list (K := K) (a := D) (xs := ps.map V.ref) (fun i H' => Same H9 H' ∧ H' D2 = some (.lst (nvs ((List.range i).map fun k => tb names (toldF kind s (tb xs 10) (tb xs 11) (tb xs 12) (tb xs 13) (tb xs 14) (wordN s m k)))))) ⟨sNew hD2, upd_same⟩ (fun i H' _ ⟨h, _⟩ => SqL.of (h _ _ hL9)) ?_ ?_
      · rintro i x H' hi ⟨sm, hL⟩
        rw [List.getElem?_map] at hi
        cases hq : ps[i]? with
        | none => rw [hq] at hi; cases hi
        | some q =>
          rw [hq] at hi
          obtain rfl : V.ref q = x := Option.some.inj hi
          have hil : i < s ^ m := by
            have := (List.getElem?_eq_some_iff.mp hq).1
            omega
          have hwl : ∀ d ∈ wordN s m i, d < s := wordN_lt s (by omega) m i
          have hwn : wordN s m i ≠ [] := fun z => by
            have := wordN_len s m i
            rw [z] at this
            simp at this
            omega
          have hto := toldF_lt (x10 := tb xs 10) (x11 := tb xs 11) (x12 := tb xs 12) (x13 := tb xs 13) (x14 := tb xs 14) ok hwl
          refine ⟨rfl, _, rfl, _, rfl, _, rfl, _, rfl, _, rfl, xa, q, kind, s, xs, wordN s m i, rfl, SqL.of (sm _ _ (s9 _ _ hX8)), by omega, SqL.of (sm _ _ (hps9 i q hq)), hwn, fun d hd => by have := hwl d hd; omega, hs2, hs9, fun h => by rw [wordN_len]; exact (ok.c3 h).2, ok.c2, ok.c6, fun H2 s2 => ?_⟩
          refine ⟨pn, _, _, _, rfl, rfl, SqL.of (s2 _ _ (sm _ _ (s9 _ _ hN8))), at_k _ rfl (by omega), ?_⟩
          refine ⟨_, s2 _ _ hL, small_line (by rw [nvs_len, List.length_map, List.length_range]; omega), sUp (sm.trans s2) hD2, ?_⟩
          rw [upd_same, range_snoc (fun k => tb names (toldF kind s (tb xs 10) (tb xs 11) (tb xs 12) (tb xs 13) (tb xs 14) (wordN s m k))) i]
      · rintro H10 ⟨s10, hL10⟩
        rw [List.length_map, hpl] at hL10
        refine ⟨_, rfl, _, rfl, _, rfl, D2, _, rfl, .inl ⟨SqL.of hL10, fun u hu => ⟨by show 3 ≤ sizeLine; decide, fun v hv => ?_⟩⟩⟩
        have nuv : u ≠ v := fun e => by rw [← e, upd_same] at hv; cases hv
        have hv' : H10 v = none := by rw [upd_ne (Ne.symm nuv)] at hv; exact hv
        refine ⟨_, rfl, by show 2 ≤ sizeLine; decide, fun z hz => ?_⟩
        have nvz : v ≠ z := fun e => by rw [← e, upd_same] at hz; cases hz
        have nuz : u ≠ z := ne_of_none (by rw [upd_ne nuv, upd_same]) hz
        have hz' : H10 z = none := by rw [upd_ne (Ne.symm nvz), upd_ne (Ne.symm nuz)] at hz; exact hz
        refine kk kind s m (tb xs 10) (tb xs 11) (tb xs 12) (tb xs 13) (tb xs 14) names hfam hperm _ z v (fun b o h n => ?_) upd_same ⟨u, SqT.of (by rw [upd_ne nvz, upd_same]), SqT.of (by rw [upd_ne nuz, upd_ne nuv, upd_same]; rfl)⟩
        have h10 := s10 _ _ (s9 _ _ (e8 b o h n))
        rw [upd_ne (ne_of_none h10 hz'), upd_ne (ne_of_none h10 hv'), upd_ne (ne_of_none h10 hu)]
        exact h10
end
end K52
set_option Elab.async false
set_option linter.all false
set_option maxRecDepth 100000
/-! A rule of this claim's own: {(a, b): x}. -/
namespace K52
open PySem PySem.Spec PyProof.Rows L2
section
variable {X : Cx}
def tDispT1 (tk tv : TE) : TE := fun σ H Q => ∀ p, H p = none → tk σ (L2.upd H p (.dT [])) fun x H1 => tv σ H1 fun y H2 => ∃ (b : Addr) (kk : List Key), x = .ref b ∧ H2 b = some (.tup (kk.map kV)) ∧ H2 p = some (.dT []) ∧ Q (.ref p) (L2.upd H2 p (.dT [(kk, y)]))
theorem pe_dispT1 {k v : Expr} {tk tv : TE} {pos : Pos} (hu : X.A.units + 64 < cLine) (hk : PE X k tk) (hv : PE X v tv) : PE X (.Dict [some k] [v] pos) (tDispT1 tk tv) := by
  refine ⟨fun pins s σ H Q I q => ?_⟩
  have hn := I.hok.fresh (Nat.le_refl s.heap.objs.size)
  have I1 := I.laid (a := s.heap.objs.size) (o := .dT []) (h' := s.heap.push { cls := .type "dict", data := .dict #[] }) (t' := s.toks) (fun _ _ q => Heap.get?_push_of_some _ q) (Nat.le_refl _) (dt_empty s.heap I.big)
  refine wpAny_Dict_any rfl rfl (by simp) (by show 1 ≤ 15; decide) (pairTrees_cons_walk (thn (hk.run pins _ σ _ _ I1 (q _ hn)) fun u s1 ⟨x, H1, I2, rx, q1⟩ => thn (hv.run pins s1 σ H1 _ I2 q1) fun w2 s2 ⟨y, H2, I3, ry, b, kk, ex, hb, hp, q2⟩ => pairTrees_nil_walk ?_))
  subst ex
  obtain rfl : u = Value.ref b := rx
  obtain ⟨z, hd, xs, rel, dd⟩ := dt_of I3.hok hp
  cases rel
  refine wpAny_storeAllH (knd := tupleKind (mixKind X.prog X.w)) (d := s.heap.objs.size) ?_ [(.ref b, w2)] [(kk, b, w2)] [] s2 _ ⟨rfl, rfl, key_of I3.hok hb, True.intro⟩ dd (by show 1 ≤ sizeLine; decide) fun h' tk dd' hs => ?_
  · show X.A.units < cLine
    omega
  · obtain ⟨q0, es, ep, hq, h2, h3, h4, _, h5⟩ := dd'
    refine ⟨.ref s.heap.objs.size, L2.upd H2 s.heap.objs.size (.dT [(kk, y)]), d_write I3 (by rw [hp]; exact True.intro) hs ⟨q0, hq⟩ ⟨by show 1 ≤ sizeLine; decide, hd, _, .cons ⟨rfl, ?_, ry⟩ .nil, q0, es, ep, hq, h2, h3, h4, h5⟩, rfl, q2⟩
    rw [upd_ne (ne_of hb hp (fun z => nomatch z))]
    exact hb
end
end K52
set_option Elab.async false
set_option maxRecDepth 100000
namespace K52
open PySem L2
def pairsL (N i : Nat) : List (Nat × Nat) := ((List.range i).filter fun k => decide (k / N ≠ k % N)).map fun k => (k / N, k % N)
theorem pairsL_rows : ∀ N, N < 10 → pairsL N (N * N) = rowsN N N := by decide +kernel
theorem pairsL_succ_pos {N i : Nat} (h : i / N ≠ i % N) : pairsL N (i + 1) = pairsL N i ++ [(i / N, i % N)] := by
  unfold pairsL
  rw [List.range_succ, List.filter_append, List.map_append, List.filter_cons_of_pos (by simpa using h)]
  rfl
theorem pairsL_succ_neg {N i : Nat} (h : i / N = i % N) : pairsL N (i + 1) = pairsL N i := by
  unfold pairsL
  rw [List.range_succ, List.filter_append, List.map_append, List.filter_cons_of_neg (by simpa using h)]
  exact List.append_nil _
theorem pairsL_len (N i : Nat) : (pairsL N i).length ≤ i := by
  unfold pairsL
  rw [List.length_map]
  have := List.length_filter_le (fun k => decide (k / N ≠ k % N)) (List.range i)
  rwa [List.length_range] at this
theorem pairsL_ne {N i : Nat} {x : Nat × Nat} (h : x ∈ pairsL N i) : x.1 ≠ x.2 := by
  unfold pairsL at h
  obtain ⟨k, hk, rfl⟩ := List.mem_map.mp h
  exact of_decide_eq_true (List.mem_filter.mp hk).2
theorem pairsL_mem {N u v : Nat} (hu : u < N) (hv : v < N) (h : u ≠ v) : (u, v) ∈ pairsL N (N * N) := by
  unfold pairsL
  have h1 : (u * N + v) / N = u := by
    rw [Nat.mul_comm, Nat.mul_add_div (by omega), Nat.div_eq_of_lt hv]
    rfl
  have h2 : (u * N + v) % N = v := by
    rw [Nat.mul_comm, Nat.mul_add_mod, Nat.mod_eq_of_lt hv]
  refine List.mem_map.mpr ⟨u * N + v, List.mem_filter.mpr ⟨List.mem_range.mpr ?_, by rw [h1, h2]; simpa using h⟩, by rw [h1, h2]⟩
  have : u * N + N ≤ N * N := by
    have := Nat.mul_le_mul_right N (show u + 1 ≤ N by omega)
    rwa [Nat.add_mul, Nat.one_mul] at this
  omega
/-- the law's dict of ranks -/
def RankD (H : Hp) (p : Addr) (N : Nat) (z0 : Int) (rk : Nat → Nat → Int) : Prop := ∃ kvs : List (List Key × V), H p = some (.dT kvs) ∧ valV kvs [kn 0, kn 0] = some (.int z0) ∧ ∀ u v, u < N → v < N → u ≠ v → valV kvs [kn u, kn v] = some (.int (rk u v))
section
variable {P : Program} {w : World} {K : PySem.W.Frag} {mg : Str → Option Value} {base : Heap}
abbrev st__law_ranks : Stmt := top 57
theorem sc__law_ranks : FnScope ["_law_found", "_law_many", "_law_pairs", "_law_rank", "_law_row", "_law_pair", "_law_k"] ["_law_found", "_law_many"] (defScope st__law_ranks) := ⟨rfl, rfl, rfl, by decide +kernel, rfl, by decide +kernel, by decide +kernel⟩
def sp_lranks (K : PySem.W.Frag) : Sp := fun vs H Q _ => ∃ (a r : Addr) (N : Nat) (z0 : Int) (ts : List Addr) (rk : Nat → Nat → Int), vs = [.ref a, nv N] ∧ 1 ≤ N ∧ N ≤ 9 ∧ H a = some (.tup [.int z0, .ref r]) ∧ H r = some (.lst (ts.map V.ref)) ∧ RowsAt H ts (rowsN N N) rk ∧
  ∀ (H' : Hp) (p : Addr), Same H H' → H p = none → RankD H' p N z0 rk → Q (.ref p) H'
theorem has_lranks (F : FunC K mg "_law_ranks" 57 ["_law_found", "_law_many"]) (T : Bt mg) (h__law_whole : Has P w K mg base 1 "_law_whole" ["_law_found"] sp_whole) : Has P w K mg base 2 "_law_ranks" ["_law_found", "_law_many"] (sp_lranks K) := by
  obtain ⟨_, _, G__law_whole, C__law_whole⟩ := h__law_whole
  obtain ⟨f, fd, F, C⟩ := F
  refine ⟨f, fd, F.ok sc__law_ranks (fun vs H Q E h => ?_) (fun cdv A outer s H vs Q E hr h => ?_), C⟩
  · obtain ⟨a, r, N, z0, ts, rk, rfl, _⟩ := h
    rfl
  · obtain ⟨a, r, N, z0, ts, rk, rfl, hN1, hN9, hA, hR, rows, kk⟩ := h
    have hu := hu_of hr
    refine ⟨_, (pss_cons (ps_if (PW.pt (pw_or (pt_not (pt_val (pe_callB call_isi (by rfl) T.isinstance (by decide +kernel) (pa_cons (pv 0) (pa_cons (pe_bltn (v := .ty "tuple") (by rfl) T.tuple (by decide +kernel) rfl) pa_nil))))) (pw_or (pt_cmpR op_ne (pe_callB call_len_seq (by rfl) T.len PySem.boot_len (pa_cons (pv 0) pa_nil)) pe_int (nomark _)) (pw_or (pt_not (pt_val (pe_call G__law_whole hr rfl C__law_whole.mg C__law_whole.kp C__law_whole.b .nil pass0 (pa_cons (pe_ix ix_tup (pv 0) pe_int (fun _ _ => rfl)) pa_nil)))) (pw_or1 (pt_not (pt_val (pe_callB call_isi (by rfl) T.isinstance (by decide +kernel) (pa_cons (pe_ix ix_tup (pv 0) pe_int (fun _ _ => rfl)) (pa_cons (pe_bltn (v := .ty "list") (by rfl) T.list (by decide +kernel) rfl) pa_nil))))))))))
        (pss_one (ps_ret pe_non))
        pss_nil)
      (pss_cons (ps_setLc (i := 2) (own := [("_law_k", 6)]) (g := gName 6) (by rfl) sc__law_ranks.nd rfl rfl (sw_true rfl rfl rfl (by decide +kernel)) (pi_range1 (by rfl) T.range (pa_cons (pe_op op_mul (pv 1) (pv 1)) pa_nil)) (blkOk_by (own := [("_law_k", 6)]) (sc := defScope st__law_ranks) (N := ["_law_found", "_law_many", "_law_pairs", "_law_rank", "_law_row", "_law_pair", "_law_k"]) (by decide +kernel)) (fun _ _ _ _ _ => pg_name (i := 6) sc__law_ranks.nd rfl (Or.inl rfl)) (fun _ _ _ _ _ => pts_one (pt_cmpR op_ne (pe_op op_fdiv (pv 6) (pv 1)) (pe_op op_mod (pv 6) (pv 1)) (nomark _))) (fun _ _ _ _ _ => (pe_tup (pa_cons (pe_op op_fdiv (pv 6) (pv 1)) (pa_cons (pe_op op_mod (pv 6) (pv 1)) pa_nil)))))
      (pss_cons (ps_if (pt_cmpR op_ne (pe_callB call_len_seq (by rfl) T.len PySem.boot_len (pa_cons (pe_ix ix_tup (pv 0) pe_int (fun _ _ => rfl)) pa_nil)) (pe_callB call_len_seq (by rfl) T.len PySem.boot_len (pa_cons (pv 2) pa_nil)) (nomark _))
        (pss_one (ps_ret pe_non))
        pss_nil)
      (pss_cons (ps_set (i := 3) sc__law_ranks.nd rfl (Or.inl rfl) (pe_dispT1 hr.units (pe_tup (pa_cons pe_int (pa_cons pe_int pa_nil))) (pe_ix ix_tup (pv 0) pe_int (fun _ _ => rfl))))
      (pss_cons (ps_for PassesOwn.never rfl (RZ.pi_zipA (by rfl) T.zip (pa_cons (pe_ix ix_tup (pv 0) pe_int (fun _ _ => rfl)) (pa_cons (pv 2) pa_nil))) (pg_tup (by rfl) (pgs_cons (pg_name (i := 4) sc__law_ranks.nd rfl (Or.inl rfl)) (pgs_cons (pg_name (i := 5) sc__law_ranks.nd rfl (Or.inl rfl)) pgs_nil)))
        (pss_cons (ps_if (PW.pt (pw_or (pt_not (pt_val (pe_callB call_isi (by rfl) T.isinstance (by decide +kernel) (pa_cons (pv 4) (pa_cons (pe_bltn (v := .ty "tuple") (by rfl) T.tuple (by decide +kernel) rfl) pa_nil))))) (pw_or (pt_cmpR op_ne (pe_callB call_len_seq (by rfl) T.len PySem.boot_len (pa_cons (pv 4) pa_nil)) pe_int (nomark _)) (pw_or (pt_not (pt_val (pe_call G__law_whole hr rfl C__law_whole.mg C__law_whole.kp C__law_whole.b .nil pass0 (pa_cons (pe_ix ix_tup (pv 4) pe_int (fun _ _ => rfl)) pa_nil)))) (pw_or1 (pt_not (pt_val (pe_call G__law_whole hr rfl C__law_whole.mg C__law_whole.kp C__law_whole.b .nil pass0 (pa_cons (pe_ix ix_tup (pv 4) pe_int (fun _ _ => rfl)) pa_nil)))))))))
          (pss_one (ps_ret pe_non))
          pss_nil)
        (pss_cons (ps_if (PW.pt (pw_or (pt_not (pt_val (pe_call G__law_whole hr rfl C__law_whole.mg C__law_whole.kp C__law_whole.b .nil pass0 (pa_cons (pe_ix ix_tup (pv 4) pe_int (fun _ _ => rfl)) pa_nil)))) (pw_or1 (pt_cmpR (op_neD hr.units) (pe_tup (pa_cons (pe_ix ix_tup (pv 4) pe_int (fun _ _ => rfl)) (pa_cons (pe_ix ix_tup (pv 4) pe_int (fun _ _ => rfl)) pa_nil))) (pv 5) (nomark _)))))
          (pss_one (ps_ret pe_non))
          pss_nil)
        (pss_one (ps_dput hu (pv 3) (pv 5) (pe_ix ix_tup (pv 4) pe_int (fun _ _ => rfl)) rfl)))))
      (pss_one (ps_ret (pv 3)))))))), ?_⟩
    refine ⟨_, rfl, _, _, _, _, true, rfl, .ty "tuple", .base (.tup hA), kit_ty (by decide +kernel), _, rfl, ?_⟩
    refine iteF ?_
    refine ⟨_, rfl, a, _, rfl, .inr (SqT.of hA), rfl, _, rfl, ?_⟩
    refine ifNF rfl ?_
    refine ⟨_, rfl, a, _, _, _, rfl, rfl, SqT.of hA, rfl, z0, rfl, _, rfl, ?_⟩
    refine iteF ?_
    refine ⟨_, rfl, a, _, _, _, rfl, rfl, SqT.of hA, rfl, _, _, _, _, true, rfl, .ty "list", .base (.lst hR), kit_ty (by decide +kernel), _, rfl, ?_⟩
    refine iteF ?_
    have hNN : N * N ≤ 81 := Nat.mul_le_mul hN9 hN9
    refine ⟨_, rfl, _, rfl, _, _, rfl, rfl, .inr ⟨by omega, by omega⟩, _, rfl, ?_, ?_, fun D hD => ?_⟩
    · show -(2 ^ 62) ≤ ((N * N : Nat) : Int)
      omega
    · show ((N * N : Nat) : Int) < 2 ^ 62
      omega
    refine lc_range0 (n := N * N) (fun i H' => Same H H' ∧ ∃ qs : List Addr, qs.length = (pairsL N i).length ∧ H' D = some (.lst (qs.map V.ref)) ∧ ∀ (j : Nat) (q : Addr) (x : Nat × Nat), qs[j]? = some q → (pairsL N i)[j]? = some x → H' q = some (.tup [nv x.1, nv x.2])) ⟨sNew hD, [], rfl, upd_same, fun j q x hj => by cases hj⟩ ?_ ?_
    · rintro i H' hi ⟨sm, qs, hql, hL, hqs⟩
      refine ⟨rfl, _, rfl, _, rfl, _, _, rfl, rfl, ⟨by omega, by omega⟩, _, rfl, _, rfl, _, _, rfl, rfl, (by show (0 : Int) < (N : Int); omega), rfl, _, rfl, ?_⟩
      refine ifN2 (fun h => ?_) (fun h => ?_)
      · have h' : i / N ≠ i % N := fun e => h (show V.int ((i / N : Nat) : Int) = V.int ((i % N : Nat) : Int) by rw [e])
        rw [pairsL_succ_pos h']
        refine ⟨_, rfl, _, rfl, _, _, rfl, rfl, ⟨by omega, by omega⟩, _, rfl, _, rfl, _, _, rfl, rfl, (by show (0 : Int) < (N : Int); omega), by show 2 ≤ sizeLine; decide, fun t ht => ?_⟩
        have ntD : t ≠ D := fun e => by rw [e, hL] at ht; cases ht
        have hlen := pairsL_len N i
        refine ⟨_, by rw [upd_ne (Ne.symm ntD)]; exact hL, small_line (by rw [List.length_map]; omega), sUp (sUp sm (sm.free ht)) hD, qs ++ [t], by simp [hql], by rw [upd_same, List.map_append]; rfl, fun j q x hj hx => ?_⟩
        by_cases hlt : j < qs.length
        · rw [List.getElem?_append_left hlt] at hj
          rw [List.getElem?_append_left (by omega)] at hx
          have h1 := hqs j q x hj hx
          have hqD : q ≠ D := fun e => by rw [e, hL] at h1; cases h1
          rw [upd_ne hqD, upd_ne (ne_of_none h1 ht)]
          exact h1
        · rw [List.getElem?_append_right (by omega)] at hj
          rw [List.getElem?_append_right (by omega), ← hql] at hx
          have hj0 : j - qs.length = 0 := by
            have := (List.getElem?_eq_some_iff.mp hj).1
            simp at this
            omega
          rw [hj0] at hj hx
          cases hj
          cases hx
          rw [upd_ne ntD, upd_same]
          rfl
      · have h' : i / N = i % N := by
          have h : ((i / N : Nat) : Int) = ((i % N : Nat) : Int) := V.int.inj h
          omega
        rw [pairsL_succ_neg h']
        exact ⟨sm, qs, hql, hL, hqs⟩
    · rintro H1 ⟨s1, qs, hql, hD1, hqs⟩
      have hrows := pairsL_rows N (by omega)
      rw [← hrows] at rows
      have hlen : ts.length = qs.length := by rw [rows.len, hql]
      have hql2 := pairsL_len N (N * N)
      refine ⟨_, rfl, a, _, _, _, rfl, rfl, SqT.of (s1 _ _ hA), rfl, r, _, rfl, .inl (SqL.of (s1 _ _ hR)), _, rfl, D, _, rfl, .inl (SqL.of hD1), rfl, _, rfl, ?_⟩
      refine ifNF (by rw [List.length_map, List.length_map, hlen]) ?_
      intro d hd
      refine ⟨by show 2 ≤ sizeLine; decide, fun t0 ht0 => ?_⟩
      have n0d : t0 ≠ d := fun e => by rw [e, upd_same] at ht0; cases ht0
      have ht0' : H1 t0 = none := by rw [upd_ne n0d] at ht0; exact ht0
      have s2 : Same H1 (L2.upd (L2.upd H1 d (.dT [])) t0 (.tup [.int 0, .int 0])) := sUp (sNew hd) ht0'
      refine ⟨_, rfl, a, _, _, _, rfl, rfl, SqT.of (s2 _ _ (s1 _ _ hA)), rfl, t0, [kn 0, kn 0], rfl, by rw [upd_same]; rfl, by rw [upd_ne (Ne.symm n0d), upd_same], ?_⟩
      have s3 : Same H1 (L2.upd (L2.upd (L2.upd H1 d (.dT [])) t0 (.tup [.int 0, .int 0])) d (.dT [([kn 0, kn 0], .int z0)])) := sUp s2 hd
      have hd3 : (L2.upd (L2.upd (L2.upd H1 d (.dT [])) t0 (.tup [.int 0, .int 0])) d (.dT [([kn 0, kn 0], .int z0)])) d = some (.dT [([kn 0, kn 0], .int z0)]) := upd_same
      have ndH : H d = none := s1.free hd
      refine ⟨_, rfl, a, _, _, _, rfl, rfl, SqT.of (s3 _ _ (s1 _ _ hA)), rfl, _, rfl, r, D, ts.map V.ref, qs.map V.ref, rfl, .inl ⟨SqL.of (s3 _ _ (s1 _ _ hR)), SqL.of (s3 _ _ hD1), ?_⟩⟩
      refine RZ.for_zipL (K := K) (by rw [List.length_map, List.length_map, hlen]) (fun i σ H' => ∃ u4 u5, σ = [some (.ref a), some (nv N), some (.ref D), some (.ref d), u4, u5, none] ∧ Same H1 H' ∧ ∃ kvs : List (List Key × V), H' d = some (.dT kvs) ∧ kvs.length ≤ i + 1 ∧ valV kvs [kn 0, kn 0] = some (.int z0) ∧ ∀ (j : Nat) (x : Nat × Nat), j < i → (pairsL N (N * N))[j]? = some x → valV kvs [kn x.1, kn x.2] = some (.int (rk x.1 x.2)))
        ⟨none, none, rfl, s3, _, hd3, Nat.le_refl _, valV_pos rfl, fun j x hj => absurd hj (Nat.not_lt_zero _)⟩ (fun i σ H' ⟨_, _, _, s4, _⟩ => ⟨SqL.of (s4 _ _ (s1 _ _ hR)), SqL.of (s4 _ _ hD1)⟩) ?_ ?_
      · rintro i x y tt σ H' hx hy ⟨u4, u5, rfl, s4, kvs, hd4, hl4, hz4, hall⟩ htt
        rw [List.getElem?_map] at hx hy
        obtain ⟨t, ht, rfl⟩ := Option.map_eq_some_iff.mp hx
        obtain ⟨q, hq, rfl⟩ := Option.map_eq_some_iff.mp hy
        have hil : i < (pairsL N (N * N)).length := by
          have := (List.getElem?_eq_some_iff.mp hq).1
          omega
        have hp : (pairsL N (N * N))[i]? = some (pairsL N (N * N))[i] := List.getElem?_eq_getElem hil
        generalize (pairsL N (N * N))[i] = xx at hp
        have hT4 := s4 _ _ (s1 _ _ (rows.each i t xx ht hp))
        have hQ4 := s4 _ _ (hqs i q xx hq hp)
        have s5 : Same H' (L2.upd H' tt (.tup [.ref t, .ref q])) := sNew htt
        have nxx : xx.1 ≠ xx.2 := pairsL_ne (List.mem_of_getElem? hp)
        refine ⟨tt, _, rfl, SqT.of upd_same, rfl, _, _, rfl, _, _, rfl, rfl, ?_⟩
        have hT5 := s5 _ _ hT4
        have hQ5 := s5 _ _ hQ4
        have hd5 := s5 _ _ hd4
        have s6 : Same H1 (L2.upd H' tt (.tup [.ref t, .ref q])) := s4.trans s5
        generalize L2.upd H' tt (.tup [.ref t, .ref q]) = H5 at hT5 hQ5 hd5 s6 ⊢
        refine ⟨_, rfl, _, _, _, _, true, rfl, .ty "tuple", .base (.tup hT5), kit_ty (by decide +kernel), _, rfl, ?_⟩
        refine iteF ?_
        refine ⟨_, rfl, t, _, rfl, .inr (SqT.of hT5), rfl, _, rfl, ?_⟩
        refine ifNF rfl ?_
        refine ⟨_, rfl, t, _, _, _, rfl, rfl, SqT.of hT5, rfl, _, rfl, _, rfl, ?_⟩
        refine iteF ?_
        refine ⟨_, rfl, t, _, _, _, rfl, rfl, SqT.of hT5, rfl, _, rfl, _, rfl, ?_⟩
        refine iteF ?_
        refine ⟨_, rfl, t, _, _, _, rfl, rfl, SqT.of hT5, rfl, _, rfl, _, rfl, ?_⟩
        refine iteF ?_
        refine ⟨_, rfl, t, _, _, _, rfl, rfl, SqT.of hT5, rfl, _, rfl, t, _, _, _, rfl, rfl, SqT.of hT5, rfl, by show 2 ≤ sizeLine; decide, fun t2 ht2 => ?_⟩
        have s7 : Same H5 (L2.upd H5 t2 (.tup [nv xx.1, nv xx.2])) := sNew ht2
        refine ⟨_, rfl, _, _, dp_tup (l := [(xx.1 : Int), (xx.2 : Int)]) (SqT.of upd_same), dp_tup (l := [(xx.1 : Int), (xx.2 : Int)]) (SqT.of (s7 _ _ hQ5)), shaped_tup _, shaped_tup _, _, rfl, ?_⟩
        rw [eqv_tup]
        refine ifNF rfl ?_
        have hT7 := s7 _ _ hT5
        have hQ7 := s7 _ _ hQ5
        have hd7 := s7 _ _ hd5
        refine ⟨_, rfl, t, _, _, _, rfl, rfl, SqT.of hT7, rfl, _, rfl, _, rfl, d, _, rfl, DPut.t (k := [kn xx.1, kn xx.2]) hd7 hQ7 (small_line (by omega)), ?_⟩
        refine ⟨_, _, rfl, sUp (s6.trans s7) hd, _, upd_same, ?_, ?_, fun j x hj hx => ?_⟩
        · have := length_putK kvs [kn xx.1, kn xx.2] (.int (rk xx.1 xx.2))
          omega
        · rw [valV_put, if_neg]
          · exact hz4
          · intro e
            have e1 : kn 0 = kn xx.1 := (List.cons.inj e).1
            have e2 : kn 0 = kn xx.2 := (List.cons.inj (List.cons.inj e).2).1
            have e1 := kn_inj.mp e1
            have e2 := kn_inj.mp e2
            exact nxx (by rw [← e1, ← e2])
        · rw [valV_put]
          by_cases e : [kn x.1, kn x.2] = [kn xx.1, kn xx.2]
          · rw [if_pos e]
            have e1 := kn_inj.mp (List.cons.inj e).1
            have e2 := kn_inj.mp (List.cons.inj (List.cons.inj e).2).1
            rw [e1, e2]
          · rw [if_neg e]
            refine hall j x ?_ hx
            by_cases hji : j = i
            · rw [hji, hp] at hx
              cases hx
              exact absurd rfl e
            · omega
      · rintro σ H' ⟨u4, u5, rfl, s4, kvs, hd4, hl4, hz4, hall⟩
        refine ⟨_, rfl, kk H' d (s1.trans s4) ndH ⟨kvs, hd4, hz4, fun u v hu hv huv => ?_⟩⟩
        obtain ⟨j, hj⟩ := List.mem_iff_getElem?.mp (pairsL_mem hu hv huv)
        refine hall j (u, v) ?_ hj
        have := (List.getElem?_eq_some_iff.mp hj).1
        rw [List.length_map]
        omega
end
end K52
set_option Elab.async false
set_option maxRecDepth 100000
namespace K52
open PySem L2
def zp (u v : Nat) : Nat × Nat := if u = v then (0, 0) else (u, v)
/-- a step of the law's list -/
def StepAt (H : Hp) (x : Addr) (F : List Nat) (s N : Nat) : Prop := ∃ (b e : Addr) (l r : Nat), H x = some (.tup [.ref b, .ref e]) ∧ H b = some (.tup [nv (zp (l / s) (r / s)).1, nv (zp (l / s) (r / s)).2]) ∧ H e = some (.tup [nv (zp (l % N) (r % N)).1, nv (zp (l % N) (r % N)).2]) ∧
  l < F.length ∧ r < F.length ∧ tb F l = tb F r ∧ ¬ (l / s = r / s ∧ l % N = r % N)
theorem StepAt.same {H H' : Hp} {x : Addr} {F : List Nat} {s N : Nat} (h : StepAt H x F s N) (e : ∀ y o, H y = some o → (∃ l, o = .tup l) → H' y = some o) : StepAt H' x F s N := by
  obtain ⟨b, f, l, r, h1, h2, h3, h4⟩ := h
  exact ⟨b, f, l, r, e _ _ h1 ⟨_, rfl⟩, e _ _ h2 ⟨_, rfl⟩, e _ _ h3 ⟨_, rfl⟩, h4⟩
/-- the law's words by their sign, i of them read -/
structure WordsD (H0 H : Hp) (F : List Nat) (i : Nat) (kvs : List (Key × V)) : Prop where
  len : kvs.length ≤ i
  each : ∀ kv ∈ kvs, ∃ (n : Nat) (w : Addr) (ws : List Nat), kv = (kn n, .ref w) ∧ H w = some (.lst (nvs ws)) ∧ (∀ l ∈ ws, l < F.length ∧ tb F l = n) ∧ ws.length ≤ i ∧ H0 w = none
  apart : ∀ kv ∈ kvs, ∀ kv' ∈ kvs, kv.2 = kv'.2 → kv.1 = kv'.1
theorem valV_mem {κ : Type} [DecidableEq κ] {kvs : List (κ × V)} {k : κ} {v : V} (h : valV kvs k = some v) : (k, v) ∈ kvs := by
  unfold valV at h
  obtain ⟨p, hp, rfl⟩ := Option.map_eq_some_iff.mp h
  have h1 := List.find?_some hp
  have h2 := List.mem_of_find?_eq_some hp
  have h1 : p.1 = k := by simpa using h1
  rw [← h1]
  exact h2
section
variable {P : Program} {w : World} {K : PySem.W.Frag} {mg : Str → Option Value} {base : Heap}
abbrev st__law_steps : Stmt := top 56
theorem sc__law_steps : FnScope ["_law_table", "_law_signs", "_law_size", "_law_many", "_law_words", "_law_k", "_law_steps_here", "_law_some", "_law_left", "_law_right", "_law_begin", "_law_end"] ["_law_table", "_law_signs", "_law_size"] (defScope st__law_steps) := ⟨rfl, rfl, rfl, by decide +kernel, rfl, by decide +kernel, by decide +kernel⟩
def sp_lsteps (K : PySem.W.Frag) : Sp := fun vs H Q _ => ∃ (t : Addr) (s q : Nat) (F : List Nat), vs = [.ref t, nv s, nv q] ∧ SqL K H t (nvs F) ∧ F.length = s ^ q ∧ 1 ≤ q ∧ q ≤ 1000 ∧ 2 ≤ s ∧ s ≤ 9 ∧ s ^ (q - 1) ≤ 9 ∧ (∀ d ∈ F, d < s) ∧
  ∀ (H' : Hp) (p : Addr) (xs : List Addr), Same H H' → H p = none → H' p = some (.lst (xs.map V.ref)) → (∀ x ∈ xs, StepAt H' x F s (s ^ (q - 1))) → Q (.ref p) H'
theorem has_lsteps (F : FunC K mg "_law_steps" 56 ["_law_table", "_law_signs", "_law_size"]) (T : Bt mg) (h__law_power : Has P w K mg base 1 "_law_power" ["_law_signs", "_law_many"] sp_power) : Has P w K mg base 2 "_law_steps" ["_law_table", "_law_signs", "_law_size"] (sp_lsteps K) := by
  obtain ⟨_, _, G__law_power, C__law_power⟩ := h__law_power
  obtain ⟨f, fd, F, C⟩ := F
  refine ⟨f, fd, F.ok sc__law_steps (fun vs H Q E h => ?_) (fun cdv A outer s H vs Q E hr h => ?_), C⟩
  · obtain ⟨t, s, q, F, rfl, _⟩ := h
    rfl
  · obtain ⟨t, s, q, F, rfl, hF, hFl, hq1, hq, hs2, hs9, hN9, hFs, kk⟩ := h
    have hu := hu_of hr
    refine ⟨_, (pss_cons (ps_set (i := 3) sc__law_steps.nd rfl (Or.inl rfl) (pe_call G__law_power hr rfl C__law_power.mg C__law_power.kp C__law_power.b .nil pass0 (pa_cons (pv 1) (pa_cons (pe_op op_sub (pv 2) pe_int) pa_nil))))
      (pss_cons (ps_set (i := 4) sc__law_steps.nd rfl (Or.inl rfl) pe_dnewK)
      (pss_cons (ps_for PassesOwn.never rfl (pi_range1 (by rfl) T.range (pa_cons (pe_callB call_len_seq (by rfl) T.len PySem.boot_len (pa_cons (pv 0) pa_nil)) pa_nil)) (pg_name (i := 5) sc__law_steps.nd rfl (Or.inl rfl))
        (pss_one (ps_expr (pe_bm PySem.F.plainAttrs_list PySem.F.slot_list_append PySem.F.type_list_append mt_append (pe_dsetd (pv 4) (pe_ix ix_list (pv 0) (pv 5) (fun _ _ => rfl)) (pe_lst pa_nil) ⟨rfl, rfl, rfl, rfl⟩) (pa_cons (pv 5) pa_nil)))))
      (pss_cons (ps_set (i := 6) sc__law_steps.nd rfl (Or.inl rfl) (pe_lst pa_nil))
      (pss_cons (ps_lock (ps_for PassesOwn.never rfl (pi_values (pv 4)) (pg_name (i := 7) sc__law_steps.nd rfl (Or.inl rfl))
        (pss_one (ps_for PassesOwn.never rfl (pi_list (pv 7)) (pg_name (i := 8) sc__law_steps.nd rfl (Or.inl rfl))
          (pss_one (ps_for PassesOwn.never rfl (pi_list (pv 7)) (pg_name (i := 9) sc__law_steps.nd rfl (Or.inl rfl))
            (pss_cons (ps_set (i := 10) sc__law_steps.nd rfl (Or.inl rfl) (pe_tup (pa_cons (pe_op op_fdiv (pv 8) (pv 1)) (pa_cons (pe_op op_fdiv (pv 9) (pv 1)) pa_nil))))
            (pss_cons (ps_set (i := 11) sc__law_steps.nd rfl (Or.inl rfl) (pe_tup (pa_cons (pe_op op_mod (pv 8) (pv 3)) (pa_cons (pe_op op_mod (pv 9) (pv 3)) pa_nil))))
            (pss_cons (ps_if (pt_cmpR op_eq (pe_ix ix_tup (pv 10) pe_int (fun _ _ => rfl)) (pe_ix ix_tup (pv 10) pe_int (fun _ _ => rfl)) (nomark _))
              (pss_one (ps_set (i := 10) sc__law_steps.nd rfl (Or.inl rfl) (pe_tup (pa_cons pe_int (pa_cons pe_int pa_nil)))))
              pss_nil)
            (pss_cons (ps_if (pt_cmpR op_eq (pe_ix ix_tup (pv 11) pe_int (fun _ _ => rfl)) (pe_ix ix_tup (pv 11) pe_int (fun _ _ => rfl)) (nomark _))
              (pss_one (ps_set (i := 11) sc__law_steps.nd rfl (Or.inl rfl) (pe_tup (pa_cons pe_int (pa_cons pe_int pa_nil)))))
              pss_nil)
            (pss_one (ps_if (PW.pt (pw_or (pt_cmpR (op_neD hr.units) (pv 10) (pe_tup (pa_cons pe_int (pa_cons pe_int pa_nil))) (nomark _)) (pw_or1 (pt_cmpR (op_neD hr.units) (pv 11) (pe_tup (pa_cons pe_int (pa_cons pe_int pa_nil))) (nomark _)))))
              (pss_one (ps_expr (pe_bm PySem.F.plainAttrs_list PySem.F.slot_list_append PySem.F.type_list_append mt_append (pv 6) (pa_cons (pe_tup (pa_cons (pv 10) (pa_cons (pv 11) pa_nil))) pa_nil))))
              pss_nil))))))))))))
      (pss_one (ps_ret (pv 6)))))))), ?_⟩
    have hF81 : F.length ≤ 81 := by
      rw [hFl, show q = (q - 1) + 1 by omega, Nat.pow_succ]
      exact Nat.mul_le_mul hN9 hs9
    have hN0 : 0 < s ^ (q - 1) := Nat.pow_pos (by omega)
    refine ⟨_, rfl, _, rfl, _, _, rfl, rfl, s, q - 1, ?_, hs9, by omega, ?_⟩
    · show [nv s, V.int ((q : Int) - 1)] = [nv s, nv (q - 1)]
      rw [show (q : Int) - 1 = ((q - 1 : Nat) : Int) by omega]
    generalize s ^ (q - 1) = N at hN9 hN0 kk ⊢
    intro d hd
    refine ⟨_, rfl, t, _, rfl, .inl ((sNew hd).seq hF), _, rfl, by rw [nvs_len]; omega, by rw [nvs_len]; omega, ?_⟩
    rw [nvs_len]
    refine for_range0 (n := F.length) (fun i σ H' => ∃ u5, σ = [some (.ref t), some (nv s), some (nv q), some (nv N), some (.ref d), u5, none, none, none, none, none, none] ∧ Same H H' ∧ ∃ kvs, H' d = some (.dK kvs) ∧ WordsD H H' F i kvs) ⟨none, rfl, sNew hd, [], upd_same, Nat.le_refl _, (fun kv h => by cases h), (fun kv h => by cases h)⟩ ?_ ?_
    · rintro i σ H' hi ⟨u5, rfl, sm, kvs, hdk, W⟩
      refine ⟨_, rfl, d, rfl, .inl ⟨kvs, .inl hdk⟩, _, rfl, _, rfl, t, _, _, _, rfl, rfl, sm.seq hF, at_k i rfl hi, Nat.zero_le _, fun e he => ?_⟩
      have nde : d ≠ e := ne_of_none hdk he
      have hdk2 : (L2.upd H' e (.lst [])) d = some (.dK kvs) := by rw [upd_ne nde]; exact hdk
      have hWl := W.len
      refine ⟨kvs, kn (tb F i), hdk2, rfl, small_line (by omega), fun v hv => ?_, fun hn => ?_⟩
      · obtain ⟨n, w, ws, e1, hw, hws, hwl, hwn⟩ := W.each _ (valV_mem hv)
        obtain ⟨e2, rfl⟩ := Prod.mk.inj e1
        have e2 := kn_inj.mp e2
        have nwe : w ≠ e := ne_of_none hw he
        have hw2 : (L2.upd H' e (.lst [])) w = some (.lst (nvs ws)) := by rw [upd_ne nwe]; exact hw
        refine ⟨.inl ⟨rfl, _, SqL.of hw2⟩, _, rfl, w, _, _, rfl, rfl, hw2, small_line (by rw [nvs_len]; omega), ?_⟩
        have ndw : d ≠ w := fun e => by rw [e, hw] at hdk; cases hdk
        refine ⟨_, rfl, sUp (sUp sm (sm.free he)) hwn, kvs, by rw [upd_ne ndw]; exact hdk2, by omega, fun kv hkv => ?_, W.apart⟩
        obtain ⟨n', w', ws', e1', hw', hws', hwl', hwn'⟩ := W.each kv hkv
        by_cases e : w' = w
        · have e3 := W.apart kv hkv _ (valV_mem hv) (by rw [e1', e])
          rw [e1'] at e3
          have e3 : n' = tb F i := kn_inj.mp e3
          refine ⟨n', w', ws ++ [i], e1', by rw [e, upd_same, ← map_snoc], fun l hl => ?_, by simp; omega, hwn'⟩
          rcases List.mem_append.mp hl with hl | hl
          · rw [e3, e2]
            exact hws l hl
          · rw [List.mem_singleton.mp hl]
            exact ⟨hi, e3.symm⟩
        · exact ⟨n', w', ws', e1', by rw [upd_ne e, upd_ne (ne_of_none hw' he)]; exact hw', hws', by omega, hwn'⟩
      · have he2 : (L2.upd (L2.upd H' e (.lst [])) d (.dK (putK kvs (kn (tb F i)) (.ref e)))) e = some (.lst []) := by rw [upd_ne (Ne.symm nde), upd_same]
        refine ⟨.inl ⟨rfl, _, SqL.of he2⟩, _, rfl, e, _, _, rfl, rfl, he2, by show 0 < sizeLine; decide, ?_⟩
        rw [putK_new _ hn]
        refine ⟨_, rfl, sUp (sUp (sUp sm (sm.free he)) hd) (sm.free he), _, by rw [upd_ne nde, upd_same], by simp; omega, fun kv hkv => ?_, fun kv hkv kv' hkv' ee => ?_⟩
        · rcases List.mem_append.mp hkv with hkv | hkv
          · obtain ⟨n', w', ws', e1', hw', hws', hwl', hwn'⟩ := W.each kv hkv
            have h1 : w' ≠ e := ne_of_none hw' he
            have h2 : w' ≠ d := fun z => by rw [z, hdk] at hw'; cases hw'
            exact ⟨n', w', ws', e1', by rw [upd_ne h1, upd_ne h2, upd_ne h1]; exact hw', hws', by omega, hwn'⟩
          · rw [List.mem_singleton.mp hkv]
            refine ⟨tb F i, e, [i], rfl, by rw [upd_same]; rfl, fun l hl => ?_, by simp, sm.free he⟩
            rw [List.mem_singleton.mp hl]
            exact ⟨hi, rfl⟩
        · have nov : ∀ kv ∈ kvs, kv.2 ≠ V.ref e := fun kv hkv z => by
            obtain ⟨n', w', ws', e1', hw', _⟩ := W.each kv hkv
            rw [e1'] at z
            have : w' = e := V.ref.inj z
            rw [this, he] at hw'
            cases hw'
          rcases List.mem_append.mp hkv with hkv | hkv <;> rcases List.mem_append.mp hkv' with hkv' | hkv'
          · exact W.apart kv hkv kv' hkv' ee
          · rw [List.mem_singleton.mp hkv'] at ee
            exact absurd ee (nov kv hkv)
          · rw [List.mem_singleton.mp hkv] at ee
            exact absurd ee.symm (nov kv' hkv')
          · rw [List.mem_singleton.mp hkv, List.mem_singleton.mp hkv']
    · rintro σ H1 ⟨u5, rfl, s1, kvs, hdk, W⟩
      refine ⟨Nat.zero_le _, fun p hp => ?_⟩
      have ndp : d ≠ p := ne_of_none hdk hp
      refine ⟨d, .dK kvs, by rw [upd_ne ndp]; exact hdk, trivial, fun od => ?_⟩
      refine ⟨_, rfl, d, od, kvs, rfl, upd_same, ?_⟩
      have hB : ∀ x o, H1 x = some o → x ≠ d → (L2.upd H1 d (.frz od (.dK kvs))) x = some o := fun x o h n => by rw [upd_ne n]; exact h
      have hBp : (L2.upd H1 d (.frz od (.dK kvs))) p = none := by rw [upd_ne (Ne.symm ndp)]; exact hp
      have hBd : (L2.upd H1 d (.frz od (.dK kvs))) d = some (.frz od (.dK kvs)) := upd_same
      have start : Same (L2.upd H1 d (.frz od (.dK kvs))) (L2.upd (L2.upd H1 p (.lst [])) d (.frz od (.dK kvs))) := fun x o h => by
        by_cases e : x = d
        · rw [e] at h ⊢
          rw [upd_same] at h ⊢
          exact h
        · rw [upd_ne e] at h ⊢
          rw [upd_ne (ne_of_none h hp)]
          exact h
      have startp : (L2.upd (L2.upd H1 p (.lst [])) d (.frz od (.dK kvs))) p = some (.lst []) := by rw [upd_ne (Ne.symm ndp), upd_same]
      have hkl := W.len
      have hWB : ∀ kv ∈ kvs, ∃ (n : Nat) (w : Addr) (ws : List Nat), kv = (kn n, .ref w) ∧ (L2.upd H1 d (.frz od (.dK kvs))) w = some (.lst (nvs ws)) ∧ (∀ l ∈ ws, l < F.length ∧ tb F l = n) ∧ ws.length ≤ F.length := fun kv hkv => by
        obtain ⟨n, w, ws, h1, h2, h3, h4, h5⟩ := W.each kv hkv
        exact ⟨n, w, ws, h1, hB _ _ h2 (fun e => by rw [e, hdk] at h2; cases h2), h3, h4⟩
      have s1d : ∀ H', Same (L2.upd H1 d (.frz od (.dK kvs))) H' → Same H (L2.upd H' d (.dK kvs)) := fun H' sm => s1.trans (lock_back hdk sm).1
      generalize L2.upd H1 d (.frz od (.dK kvs)) = HB at hBp hBd start hWB s1d ⊢
      generalize L2.upd (L2.upd H1 p (.lst [])) d (.frz od (.dK kvs)) = HL at start startp ⊢
      refine for_it walk_values (fun i σ H' => ∃ u7 u8 u9 u10 u11, σ = [some (.ref t), some (nv s), some (nv q), some (nv N), some (.ref d), u5, some (.ref p), u7, u8, u9, u10, u11] ∧ Same HB H' ∧ ∃ xs : List Addr, H' p = some (.lst (xs.map V.ref)) ∧ xs.length ≤ i * 6561 ∧ ∀ x ∈ xs, StepAt H' x F s N) ⟨_, _, _, _, _, rfl, start, [], startp, Nat.zero_le _, fun x hx => by cases hx⟩ (fun i σ H' _ ⟨_, _, _, _, _, _, sm, _⟩ => sm _ _ hBd) ?_ ?_
      · rintro i x σ H' H'' hi ⟨u7, u8, u9, u10, u11, rfl, sm, xs, hL, hxl, hxs⟩ ⟨rfl, k, hk⟩
        obtain ⟨n, w, ws, e1, hw, hws, hwl⟩ := hWB _ (List.mem_of_getElem? hk)
        obtain ⟨_, rfl⟩ := Prod.mk.inj e1
        refine ⟨_, rfl, w, rfl, ⟨_, SqL.of (sm _ _ hw)⟩, ?_⟩
        refine for_list (K := K) (a := w) (xs := nvs ws) (fun j σ H' => ∃ u8 u9 u10 u11, σ = [some (.ref t), some (nv s), some (nv q), some (nv N), some (.ref d), u5, some (.ref p), some (.ref w), u8, u9, u10, u11] ∧ Same HB H' ∧ ∃ xs : List Addr, H' p = some (.lst (xs.map V.ref)) ∧ xs.length ≤ i * 6561 + j * 81 ∧ ∀ x ∈ xs, StepAt H' x F s N) ⟨_, _, _, _, rfl, sm, xs, hL, hxl, hxs⟩ (fun j σ H' _ ⟨_, _, _, _, _, sm, _⟩ => SqL.of (sm _ _ hw)) ?_ ?_
        · rintro j x σ H2 hj ⟨u8, u9, u10, u11, rfl, sm2, xs2, hL2, hxl2, hxs2⟩
          obtain ⟨l, hl, rfl⟩ := nvs_get hj
          have hlw := hws l (List.mem_of_getElem? hl)
          have hjw := (List.getElem?_eq_some_iff.mp hl).1
          refine ⟨_, rfl, w, rfl, ⟨_, SqL.of (sm2 _ _ hw)⟩, ?_⟩
          refine for_list (K := K) (a := w) (xs := nvs ws) (fun k σ H' => ∃ u9 u10 u11, σ = [some (.ref t), some (nv s), some (nv q), some (nv N), some (.ref d), u5, some (.ref p), some (.ref w), some (nv l), u9, u10, u11] ∧ Same HB H' ∧ ∃ xs : List Addr, H' p = some (.lst (xs.map V.ref)) ∧ xs.length ≤ i * 6561 + j * 81 + k ∧ ∀ x ∈ xs, StepAt H' x F s N) ⟨_, _, _, rfl, sm2, xs2, hL2, hxl2, hxs2⟩ (fun j σ H' _ ⟨_, _, _, _, sm, _⟩ => SqL.of (sm _ _ hw)) ?_ ?_
          · rintro k x σ H3 hk3 ⟨u9, u10, u11, rfl, sm3, xs3, hL3, hxl3, hxs3⟩
            obtain ⟨r, hr3, rfl⟩ := nvs_get hk3
            have hrw := hws r (List.mem_of_getElem? hr3)
            have hkw := (List.getElem?_eq_some_iff.mp hr3).1
            refine ⟨_, rfl, _, rfl, _, _, rfl, rfl, ⟨by omega, by omega⟩, _, rfl, _, rfl, _, _, rfl, rfl, ⟨by omega, by omega⟩, by show 2 ≤ sizeLine; decide, fun b hb => ?_⟩
            have h10 : (L2.upd H3 b (.tup [V.int ((l : Int) / (s : Int)), V.int ((r : Int) / (s : Int))])) b = some (.tup [nv (l / s), nv (r / s)]) := upd_same
            have s10 : Same H3 (L2.upd H3 b (.tup [V.int ((l : Int) / (s : Int)), V.int ((r : Int) / (s : Int))])) := sNew hb
            have sm4 := sm3.trans s10
            have hL4 := s10 _ _ hL3
            have hxs4 : ∀ x ∈ xs3, StepAt (L2.upd H3 b (.tup [V.int ((l : Int) / (s : Int)), V.int ((r : Int) / (s : Int))])) x F s N := fun x hx => (hxs3 x hx).same fun y o h _ => s10 _ _ h
            clear hL3 hxs3 s10 sm3
            generalize L2.upd H3 b (.tup [V.int ((l : Int) / (s : Int)), V.int ((r : Int) / (s : Int))]) = H4 at h10 sm4 hL4 hxs4 ⊢
            refine ⟨_, rfl, _, rfl, _, _, rfl, rfl, (by show (0 : Int) < (N : Int); omega), _, rfl, _, rfl, _, _, rfl, rfl, (by show (0 : Int) < (N : Int); omega), by show 2 ≤ sizeLine; decide, fun e he => ?_⟩
            have h11 : (L2.upd H4 e (.tup [V.int ((l : Int) % (N : Int)), V.int ((r : Int) % (N : Int))])) e = some (.tup [nv (l % N), nv (r % N)]) := upd_same
            have s11 : Same H4 (L2.upd H4 e (.tup [V.int ((l : Int) % (N : Int)), V.int ((r : Int) % (N : Int))])) := sNew he
            have h10 := s11 _ _ h10
            have sm5 := sm4.trans s11
            have hL5 := s11 _ _ hL4
            have hxs5 : ∀ x ∈ xs3, StepAt (L2.upd H4 e (.tup [V.int ((l : Int) % (N : Int)), V.int ((r : Int) % (N : Int))])) x F s N := fun x hx => (hxs4 x hx).same fun y o h _ => s11 _ _ h
            clear hL4 hxs4 s11 sm4
            show gName 11 (.ref e) _ (L2.upd H4 e (.tup [V.int ((l : Int) % (N : Int)), V.int ((r : Int) % (N : Int))])) _
            generalize L2.upd H4 e (.tup [V.int ((l : Int) % (N : Int)), V.int ((r : Int) % (N : Int))]) = H5 at h10 h11 sm5 hL5 hxs5 ⊢
            refine gN ?_
            dsimp only
            refine seqCut (fun σ H' => ∃ b', σ = [some (.ref t), some (nv s), some (nv q), some (nv N), some (.ref d), u5, some (.ref p), some (.ref w), some (nv l), some (nv r), some (.ref b'), some (.ref e)] ∧ Same H5 H' ∧ H' b' = some (.tup [nv (zp (l / s) (r / s)).1, nv (zp (l / s) (r / s)).2])) ?_ ?_
            rotate_left
            · intro Nx hNx
              refine ⟨_, rfl, b, _, _, _, rfl, rfl, SqT.of h10, rfl, _, rfl, b, _, _, _, rfl, rfl, SqT.of h10, rfl, rfl, _, rfl, ?_⟩
              refine if2 (fun h => ?_) (fun h => ?_)
              · have h' : l / s = r / s := nv_eq.mp h
                refine ⟨by show 2 ≤ sizeLine; decide, fun b2 hb2 => ?_⟩
                refine hNx _ _ ⟨b2, rfl, sNew hb2, ?_⟩
                unfold zp
                rw [if_pos h', upd_same]
                rfl
              · have h' : ¬ l / s = r / s := fun e => h (nv_eq.mpr e)
                refine hNx _ _ ⟨b, rfl, Same.refl _, ?_⟩
                unfold zp
                rw [if_neg h']
                exact h10
            rintro σ H6 ⟨b', rfl, s6, h10⟩
            have h11 := s6 _ _ h11
            have sm6 := sm5.trans s6
            have hL6 := s6 _ _ hL5
            have hxs6 : ∀ x ∈ xs3, StepAt H6 x F s N := fun x hx => (hxs5 x hx).same fun y o h _ => s6 _ _ h
            clear hL5 hxs5 s6 sm5
            refine seqCut (fun σ H' => ∃ e', σ = [some (.ref t), some (nv s), some (nv q), some (nv N), some (.ref d), u5, some (.ref p), some (.ref w), some (nv l), some (nv r), some (.ref b'), some (.ref e')] ∧ Same H6 H' ∧ H' e' = some (.tup [nv (zp (l % N) (r % N)).1, nv (zp (l % N) (r % N)).2])) ?_ ?_
            rotate_left
            · intro Nx hNx
              refine ⟨_, rfl, e, _, _, _, rfl, rfl, SqT.of h11, rfl, _, rfl, e, _, _, _, rfl, rfl, SqT.of h11, rfl, rfl, _, rfl, ?_⟩
              refine if2 (fun h => ?_) (fun h => ?_)
              · have h' : l % N = r % N := nv_eq.mp h
                refine ⟨by show 2 ≤ sizeLine; decide, fun b2 hb2 => ?_⟩
                refine hNx _ _ ⟨b2, rfl, sNew hb2, ?_⟩
                unfold zp
                rw [if_pos h', upd_same]
                rfl
              · have h' : ¬ l % N = r % N := fun e => h (nv_eq.mpr e)
                refine hNx _ _ ⟨e, rfl, Same.refl _, ?_⟩
                unfold zp
                rw [if_neg h']
                exact h11
            rintro σ H7 ⟨e', rfl, s7, h11⟩
            have h10 := s7 _ _ h10
            have sm7 := sm6.trans s7
            have hL7 := s7 _ _ hL6
            have hxs7 : ∀ x ∈ xs3, StepAt H7 x F s N := fun x hx => (hxs6 x hx).same fun y o h _ => s7 _ _ h
            clear hL6 hxs6 s7 sm6
            have inj2 : ∀ u v : Nat, ([((zp u v).1 : Int), ((zp u v).2 : Int)] : List Int) = [0, 0] ↔ u = v := fun u v => by
              unfold zp
              by_cases h : u = v
              · rw [if_pos h]
                exact ⟨fun _ => h, fun _ => rfl⟩
              · rw [if_neg h]
                refine ⟨fun z => ?_, fun z => absurd z h⟩
                have z1 := (List.cons.inj z).1
                have z2 := (List.cons.inj (List.cons.inj z).2).1
                have z1 : (u : Int) = 0 := z1
                have z2 : (v : Int) = 0 := z2
                omega
            have app : ∀ H8, Same H7 H8 → ¬ (l / s = r / s ∧ l % N = r % N) → ∀ x, H8 x = none → ∃ u9 u10 u11, ([some (.ref t), some (nv s), some (nv q), some (nv N), some (.ref d), u5, some (.ref p), some (.ref w), some (nv l), some (nv r), some (.ref b'), some (.ref e')] : L2.St) = [some (.ref t), some (nv s), some (nv q), some (nv N), some (.ref d), u5, some (.ref p), some (.ref w), some (nv l), u9, u10, u11] ∧ Same HB (L2.upd (L2.upd H8 x (.tup [.ref b', .ref e'])) p (.lst (xs3.map V.ref ++ [.ref x]))) ∧ ∃ xs : List Addr, (L2.upd (L2.upd H8 x (.tup [.ref b', .ref e'])) p (.lst (xs3.map V.ref ++ [.ref x]))) p = some (.lst (xs.map V.ref)) ∧ xs.length ≤ i * 6561 + j * 81 + (k + 1) ∧ ∀ y ∈ xs, StepAt (L2.upd (L2.upd H8 x (.tup [.ref b', .ref e'])) p (.lst (xs3.map V.ref ++ [.ref x]))) y F s N := fun H8 s8 hc x hx => by
              have hL8 := s8 _ _ hL7
              have keep : ∀ y o, H7 y = some o → (∃ l, o = .tup l) → (L2.upd (L2.upd H8 x (.tup [.ref b', .ref e'])) p (.lst (xs3.map V.ref ++ [.ref x]))) y = some o := fun y o h hh => by
                obtain ⟨l, rfl⟩ := hh
                have h8 := s8 _ _ h
                rw [upd_ne (fun z => by rw [z, hL8] at h8; cases h8), upd_ne (ne_of_none h8 hx)]
                exact h8
              have nxp : x ≠ p := fun z => by rw [z, hL8] at hx; cases hx
              refine ⟨_, _, _, rfl, sUp (sUp (sm7.trans s8) ((sm7.trans s8).free hx)) hBp, xs3 ++ [x], by rw [upd_same, List.map_append]; rfl, by simp; omega, fun y hy => ?_⟩
              rcases List.mem_append.mp hy with hy | hy
              · exact (hxs7 y hy).same keep
              · rw [List.mem_singleton.mp hy]
                exact ⟨b', e', l, r, by rw [upd_ne nxp, upd_same], keep _ _ h10 ⟨_, rfl⟩, keep _ _ h11 ⟨_, rfl⟩, hlw.1, hrw.1, hlw.2.trans hrw.2.symm, hc⟩
            have hi33 : xs3.length ≤ 900000 := by
              have := Nat.mul_le_mul_right 6561 (show i ≤ 81 by omega)
              have := Nat.mul_le_mul_right 81 (show j ≤ 81 by omega)
              omega
            refine ⟨_, rfl, by show 2 ≤ sizeLine; decide, fun c1 hc1 => ?_⟩
            have s8 : Same H7 (L2.upd H7 c1 (.tup [.int 0, .int 0])) := sNew hc1
            refine ⟨_, _, dp_tup (l := [((zp (l / s) (r / s)).1 : Int), ((zp (l / s) (r / s)).2 : Int)]) (SqT.of (s8 _ _ h10)), dp_tup (l := [0, 0]) (SqT.of upd_same), shaped_tup _, shaped_tup _, _, rfl, ?_⟩
            rw [eqv_tup]
            refine ifN2 (fun h => ?_) (fun h => ?_)
            · have h' : ¬ l / s = r / s := fun z => h ((inj2 _ _).mpr z)
              refine ⟨_, rfl, .inl ⟨rfl, _, SqL.of (s8 _ _ hL7)⟩, _, rfl, _, rfl, by show 2 ≤ sizeLine; decide, fun x hx => ?_⟩
              have hL9 : (L2.upd (L2.upd H7 c1 (.tup [.int 0, .int 0])) x (.tup [.ref b', .ref e'])) p = some (.lst (xs3.map V.ref)) := sNew hx _ _ (s8 _ _ hL7)
              refine ⟨p, _, _, rfl, rfl, hL9, small_line (by rw [List.length_map]; omega), app _ s8 (fun z => h' z.1) x hx⟩
            · have h' : l / s = r / s := (inj2 _ _).mp h
              refine ⟨_, rfl, by show 2 ≤ sizeLine; decide, fun c2 hc2 => ?_⟩
              have s9 := s8.trans (sNew (o := .tup [.int 0, .int 0]) hc2)
              refine ⟨_, _, dp_tup (l := [((zp (l % N) (r % N)).1 : Int), ((zp (l % N) (r % N)).2 : Int)]) (SqT.of (s9 _ _ h11)), dp_tup (l := [0, 0]) (SqT.of upd_same), shaped_tup _, shaped_tup _, _, rfl, ?_⟩
              rw [eqv_tup]
              refine ifN2 (fun h2 => ?_) (fun h2 => ?_)
              · have h2' : ¬ l % N = r % N := fun z => h2 ((inj2 _ _).mpr z)
                refine ⟨_, rfl, .inl ⟨rfl, _, SqL.of (s9 _ _ hL7)⟩, _, rfl, _, rfl, by show 2 ≤ sizeLine; decide, fun x hx => ?_⟩
                have hL9 := sNew (o := .tup [.ref b', .ref e']) hx _ _ (s9 _ _ hL7)
                refine ⟨p, _, _, rfl, rfl, hL9, small_line (by rw [List.length_map]; omega), app _ s9 (fun z => h2' z.2) x hx⟩
              · refine ⟨_, _, _, rfl, sm7.trans s9, xs3, s9 _ _ hL7, by omega, fun x hx => (hxs7 x hx).same fun y o h _ => s9 _ _ h⟩
          · rintro σ H3 ⟨u9, u10, u11, rfl, sm3, xs3, hL3, hxl3, hxs3⟩
            rw [nvs_len] at hxl3
            exact ⟨_, _, _, _, rfl, sm3, xs3, hL3, by rw [Nat.add_mul, Nat.one_mul]; omega, hxs3⟩
        · rintro σ H2 ⟨u8, u9, u10, u11, rfl, sm2, xs2, hL2, hxl2, hxs2⟩
          rw [nvs_len] at hxl2
          exact ⟨_, _, _, _, _, rfl, sm2, xs2, hL2, by rw [Nat.add_mul, Nat.one_mul]; have := Nat.mul_le_mul_right 81 (show ws.length ≤ 81 by omega); omega, hxs2⟩
      · rintro σ H2 ⟨u7, u8, u9, u10, u11, rfl, sm2, xs2, hL2, hxl2, hxs2⟩
        refine ⟨sm2 _ _ hBd, ?_⟩
        have npd : p ≠ d := Ne.symm ndp
        refine ⟨_, rfl, kk _ p xs2 (s1d _ sm2) (s1.free hp) (by rw [upd_ne npd]; exact hL2) fun x hx => (hxs2 x hx).same fun y o h hh => ?_⟩
        obtain ⟨l, rfl⟩ := hh
        rw [upd_ne]
        · exact h
        · intro e
          rw [e, sm2 _ _ hBd] at h
          cases h
end
end K52
set_option Elab.async false
set_option maxRecDepth 100000
namespace K52
open PySem L2
/-- the rank that the law reads -/
def rkz (z0 : Int) (rk : Nat → Nat → Int) (x : Nat × Nat) : Int := if x.1 = x.2 then z0 else rk x.1 x.2
def Rise (F : List Nat) (s N : Nat) (R : Nat × Nat → Int) : Prop := ∀ l r, l < F.length → r < F.length → tb F l = tb F r → ¬ (l / s = r / s ∧ l % N = r % N) → R (zp (l / s) (r / s)) < R (zp (l % N) (r % N))
theorem zp_eq {u v : Nat} : (zp u v).1 = (zp u v).2 → zp u v = (0, 0) := by
  unfold zp
  split
  · intro _; rfl
  · intro h; exact absurd h (by assumption)
theorem zp_lt {u v N : Nat} (hu : u < N) (hv : v < N) : (zp u v).1 < N ∧ (zp u v).2 < N := by
  unfold zp
  split
  · exact ⟨by show 0 < N; omega, by show 0 < N; omega⟩
  · exact ⟨hu, hv⟩
theorem rankD_get {H : Hp} {p b : Addr} {N : Nat} {z0 : Int} {rk : Nat → Nat → Int} {u v : Nat} (h : RankD H p N z0 rk) (hu : u < N) (hv : v < N) (hb : H b = some (.tup [nv (zp u v).1, nv (zp u v).2])) : DGet H p (.ref b) (some (.int (rkz z0 rk (zp u v)))) := by
  obtain ⟨kvs, h1, h2, h3⟩ := h
  have g := DGet.t (k := [kn (zp u v).1, kn (zp u v).2]) h1 hb
  have e : valV kvs [kn (zp u v).1, kn (zp u v).2] = some (.int (rkz z0 rk (zp u v))) := by
    unfold rkz
    by_cases h : (zp u v).1 = (zp u v).2
    · rw [if_pos h, zp_eq h]
      exact h2
    · rw [if_neg h]
      exact h3 _ _ (zp_lt hu hv).1 (zp_lt hu hv).2 h
  rw [e] at g
  exact g
section
variable {P : Program} {w : World} {K : PySem.W.Frag} {mg : Str → Option Value} {base : Heap}
abbrev st__law_rises : Stmt := top 60
theorem sc__law_rises : FnScope ["_law_found", "_law_table", "_law_signs", "_law_size", "_law_rank", "_law_begin", "_law_end"] ["_law_found", "_law_table", "_law_signs", "_law_size"] (defScope st__law_rises) := ⟨rfl, rfl, rfl, by decide +kernel, rfl, by decide +kernel, by decide +kernel⟩
def sp_rises (K : PySem.W.Frag) : Sp := fun vs H Q _ => ∃ (a r t : Addr) (s q : Nat) (z0 : Int) (ts : List Addr) (rk : Nat → Nat → Int) (F : List Nat), vs = [.ref a, .ref t, nv s, nv q] ∧ SqL K H t (nvs F) ∧ F.length = s ^ q ∧ 1 ≤ q ∧ q ≤ 1000 ∧ 2 ≤ s ∧ s ≤ 9 ∧ s ^ (q - 1) ≤ 9 ∧ (∀ d ∈ F, d < s) ∧
  H a = some (.tup [.int z0, .ref r]) ∧ H r = some (.lst (ts.map V.ref)) ∧ RowsAt H ts (rowsN (s ^ (q - 1)) (s ^ (q - 1))) rk ∧ Rise F s (s ^ (q - 1)) (rkz z0 rk) ∧ Pure H (.bl true) Q
theorem has_rises (F : FunC K mg "_law_rises" 60 ["_law_found", "_law_table", "_law_signs", "_law_size"]) (h__law_ranks : Has P w K mg base 2 "_law_ranks" ["_law_found", "_law_many"] (sp_lranks K)) (h__law_power : Has P w K mg base 2 "_law_power" ["_law_signs", "_law_many"] sp_power) (h__law_steps : Has P w K mg base 2 "_law_steps" ["_law_table", "_law_signs", "_law_size"] (sp_lsteps K)) : Has P w K mg base 3 "_law_rises" ["_law_found", "_law_table", "_law_signs", "_law_size"] (sp_rises K) := by
  obtain ⟨_, _, G__law_ranks, C__law_ranks⟩ := h__law_ranks
  obtain ⟨_, _, G__law_power, C__law_power⟩ := h__law_power
  obtain ⟨_, _, G__law_steps, C__law_steps⟩ := h__law_steps
  obtain ⟨f, fd, F, C⟩ := F
  refine ⟨f, fd, F.ok sc__law_rises (fun vs H Q E h => ?_) (fun cdv A outer s H vs Q E hr h => ?_), C⟩
  · obtain ⟨a, r, t, s, q, z0, ts, rk, F, rfl, _⟩ := h
    rfl
  · obtain ⟨a, r, t, s, q, z0, ts, rk, F, rfl, hF, hFl, hq1, hq, hs2, hs9, hN9, hFs, hA, hR, rows, rise, kk⟩ := h
    have hu := hu_of hr
    refine ⟨_, (pss_cons (ps_set (i := 4) sc__law_rises.nd rfl (Or.inl rfl) (pe_call G__law_ranks hr rfl C__law_ranks.mg C__law_ranks.kp C__law_ranks.b .nil pass0 (pa_cons (pv 0) (pa_cons (pe_call G__law_power hr rfl C__law_power.mg C__law_power.kp C__law_power.b .nil pass0 (pa_cons (pv 2) (pa_cons (pe_op op_sub (pv 3) pe_int) pa_nil))) pa_nil))))
      (pss_cons (ps_if (pt_cmpR op_isN (pv 4) pe_non (nomark _))
        (pss_one (ps_ret pe_bl))
        pss_nil)
      (pss_cons (ps_for PassesOwn.never rfl (pi_list (pe_call G__law_steps hr rfl C__law_steps.mg C__law_steps.kp C__law_steps.b .nil pass0 (pa_cons (pv 1) (pa_cons (pv 2) (pa_cons (pv 3) pa_nil))))) (pg_tup (by rfl) (pgs_cons (pg_name (i := 5) sc__law_rises.nd rfl (Or.inl rfl)) (pgs_cons (pg_name (i := 6) sc__law_rises.nd rfl (Or.inl rfl)) pgs_nil)))
        (pss_one (ps_if (pt_cmpR op_le (pe_dget hu (pv 4) (pv 6) (fun _ _ => rfl)) (pe_dget hu (pv 4) (pv 5) (fun _ _ => rfl)) (nomark _))
          (pss_one (ps_ret pe_bl))
          pss_nil)))
      (pss_one (ps_ret pe_bl))))), ?_⟩
    have hN0 : 0 < s ^ (q - 1) := Nat.pow_pos (by omega)
    refine ⟨_, rfl, _, rfl, _, rfl, _, _, rfl, rfl, s, q - 1, ?_, hs9, by omega, ?_⟩
    · show [nv s, V.int ((q : Int) - 1)] = [nv s, nv (q - 1)]
      rw [show (q : Int) - 1 = ((q - 1 : Nat) : Int) by omega]
    refine ⟨a, r, s ^ (q - 1), z0, ts, rk, rfl, hN0, hN9, hA, hR, rows, fun H1 d s1 nd hD => ?_⟩
    have hlen := F.length
    refine ⟨_, rfl, rfl, _, rfl, ?_⟩
    refine iteF ?_
    refine ⟨_, rfl, _, rfl, _, rfl, t, s, q, F, rfl, s1.seq hF, hFl, hq1, hq, hs2, hs9, hN9, hFs, fun H2 p xs s2 np hp hxs => ?_⟩
    have hD2 : RankD H2 d (s ^ (q - 1)) z0 rk := by
      obtain ⟨kvs, h1, h2⟩ := hD
      exact ⟨kvs, s2 _ _ h1, h2⟩
    refine ⟨p, rfl, ⟨_, SqL.of hp⟩, ?_⟩
    refine for_list (K := K) (a := p) (xs := xs.map V.ref) (fun i σ H' => ∃ u5 u6, σ = [some (.ref a), some (.ref t), some (nv s), some (nv q), some (.ref d), u5, u6] ∧ H' = H2) ⟨none, none, rfl, rfl⟩ (fun i σ H' _ ⟨_, _, _, e⟩ => e ▸ SqL.of hp) ?_ ?_
    · rintro i x σ H' hi ⟨u5, u6, rfl, rfl⟩
      rw [List.getElem?_map] at hi
      obtain ⟨y, hy, rfl⟩ := Option.map_eq_some_iff.mp hi
      obtain ⟨b, e, l, r, h1, h2, h3, hl, hr2, htb, hne⟩ := hxs y (List.mem_of_getElem? hy)
      refine ⟨y, _, rfl, SqT.of h1, rfl, _, _, rfl, _, _, rfl, rfl, ?_⟩
      have hdv : ∀ x, x < F.length → x / s < s ^ (q - 1) := fun x hx => by
        rw [hFl, show q = (q - 1) + 1 by omega, Nat.pow_succ] at hx
        exact Nat.div_lt_of_lt_mul (by rw [Nat.mul_comm]; exact hx)
      have gE := rankD_get hD2 (Nat.mod_lt l hN0) (Nat.mod_lt r hN0) h3
      have gB := rankD_get hD2 (hdv l hl) (hdv r hr2) h2
      refine ⟨_, rfl, _, rfl, d, _, rfl, gE, _, rfl, _, rfl, d, _, rfl, gB, _, _, rfl, rfl, _, rfl, ?_⟩
      have := rise l r hl hr2 htb hne
      refine ifF (by omega) ?_
      exact ⟨_, _, rfl, rfl⟩
    · rintro σ H' ⟨u5, u6, rfl, rfl⟩
      exact kk _ (s1.trans s2)

abbrev st__law_once : Stmt := top 61
theorem sc__law_once : FnScope ["_law_one", "_law_many", "_law_ring", "_law_due", "_law_i", "_law_at", "_law_j"] ["_law_one", "_law_many", "_law_ring"] (defScope st__law_once) := ⟨rfl, rfl, rfl, by decide +kernel, rfl, by decide +kernel, by decide +kernel⟩
def rix (low : Int) (n i j : Nat) : Nat := (((i : Int) + low + (j : Int)) % (n : Int)).toNat
theorem rix_lt {low : Int} {n i j : Nat} (h : 0 < n) : rix low n i j < n := by
  unfold rix
  have h1 := Int.emod_nonneg ((i : Int) + low + (j : Int)) (b := (n : Int)) (by omega)
  have h2 := Int.emod_lt_of_pos ((i : Int) + low + (j : Int)) (b := (n : Int)) (by omega)
  omega
theorem rix_eq {low : Int} {n i j : Nat} (h : 0 < n) : ((i : Int) + low + (j : Int)) % (n : Int) = (rix low n i j : Int) := by
  unfold rix
  have h1 := Int.emod_nonneg ((i : Int) + low + (j : Int)) (b := (n : Int)) (by omega)
  omega
def onceL (L : List Nat) (s m : Nat) (low : Int) (R : List Nat) : List Nat := (List.range R.length).map fun i => tb L (win s (fun j => tb R (rix low R.length i j)) m)
def sp_once (K : PySem.W.Frag) : Sp := fun vs H Q _ => ∃ (c r : Addr) (s m : Nat) (low : Int) (L R : List Nat), vs = [.ref c, nv m, .ref r] ∧ RuleAt K H c s low L ∧ L.length = s ^ m ∧ 1 ≤ s ∧ s ≤ 9 ∧ m ≤ 1000 ∧ SqL K H r (nvs R) ∧ 0 < R.length ∧ R.length ≤ 1000 ∧ (∀ d ∈ R, d < s) ∧ NewL H (nvs (onceL L s m low R)) Q
theorem has_once (F : FunC K mg "_law_once" 61 ["_law_one", "_law_many", "_law_ring"]) (T : Bt mg) : Has P w K mg base 1 "_law_once" ["_law_one", "_law_many", "_law_ring"] (sp_once K) := by
  obtain ⟨f, fd, F, C⟩ := F
  refine ⟨f, fd, F.ok sc__law_once (fun vs H Q E h => ?_) (fun cdv A outer s H vs Q E hr h => ?_), C⟩
  · obtain ⟨c, r, s, m, low, L, R, rfl, _⟩ := h
    rfl
  · obtain ⟨c, r, s, m, low, L, R, rfl, ⟨t, r1, r2⟩, hl, hs1, hs9, hm, hR, hR0, hR1, hRs, kk⟩ := h
    refine ⟨_, (pss_cons (ps_set (i := 3) sc__law_once.nd rfl (Or.inl rfl) (pe_lst pa_nil))
      (pss_cons (ps_for PassesOwn.never rfl (pi_range1 (by rfl) T.range (pa_cons (pe_callB call_len_seq (by rfl) T.len PySem.boot_len (pa_cons (pv 2) pa_nil)) pa_nil)) (pg_name (i := 4) sc__law_once.nd rfl (Or.inl rfl))
        (pss_cons (ps_set (i := 5) sc__law_once.nd rfl (Or.inl rfl) pe_int)
        (pss_cons (ps_for PassesOwn.never rfl (pi_range1 (by rfl) T.range (pa_cons (pv 1) pa_nil)) (pg_name (i := 6) sc__law_once.nd rfl (Or.inl rfl))
          (pss_one (ps_set (i := 5) sc__law_once.nd rfl (Or.inl rfl) (pe_op op_add (pe_op op_mul (pv 5) (pe_ix ix_tup (pv 0) pe_int (fun _ _ => rfl))) (pe_ix ix_list (pv 2) (pe_op op_mod (pe_op op_add (pe_op op_add (pv 4) (pe_ix ix_tup (pv 0) pe_int (fun _ _ => rfl))) (pv 6)) (pe_callB call_len_seq (by rfl) T.len PySem.boot_len (pa_cons (pv 2) pa_nil))) (fun _ _ => rfl))))))
        (pss_one (ps_expr (pe_bm PySem.F.plainAttrs_list PySem.F.slot_list_append PySem.F.type_list_append mt_append (pv 3) (pa_cons (pe_ix ix_tup (pe_ix ix_tup (pv 0) pe_int (fun _ _ => rfl)) (pv 5) (fun _ _ => rfl)) pa_nil)))))))
      (pss_one (ps_ret (pv 3))))), ?_⟩
    refine ⟨Nat.zero_le _, fun p hp => ?_⟩
    refine ⟨_, rfl, r, _, rfl, .inl ((sNew hp).seq hR), _, rfl, by rw [nvs_len]; omega, by rw [nvs_len]; omega, ?_⟩
    rw [nvs_len]
    refine for_range0 (n := R.length) (fun i σ H' => ∃ u4 u5 u6, σ = [some (.ref c), some (nv m), some (.ref r), some (.ref p), u4, u5, u6] ∧ Same H H' ∧ H' p = some (.lst (nvs ((List.range i).map fun i => tb L (win s (fun j => tb R (rix low R.length i j)) m))))) ⟨none, none, none, rfl, sNew hp, upd_same⟩ ?_ ?_
    · rintro i σ H' hi ⟨u4, u5, u6, rfl, sm, hL⟩
      refine ⟨_, rfl, _, rfl, by omega, by omega, ?_⟩
      refine for_range0 (n := m) (fun j σ H'' => ∃ u6, σ = [some (.ref c), some (nv m), some (.ref r), some (.ref p), some (nv i), some (nv (win s (fun j => tb R (rix low R.length i j)) j)), u6] ∧ H'' = H') ⟨_, rfl, rfl⟩ ?_ ?_
      · rintro j σ H'' hj ⟨u6, rfl, rfl⟩
        refine ⟨_, rfl, _, rfl, c, _, _, _, rfl, rfl, sT sm r1, rfl, _, _, rfl, rfl, .inr ⟨by omega, by omega⟩, ?_⟩
        refine ⟨_, rfl, _, rfl, _, rfl, c, _, _, _, rfl, rfl, sT sm r1, rfl, _, _, rfl, rfl, _, rfl, _, _, rfl, rfl, _, rfl, r, _, rfl, .inl (sm.seq hR), _, _, rfl, rfl, by rw [nvs_len]; omega, r, _, _, _, rfl, rfl, sm.seq hR, at_k (rix low R.length i j) (by rw [nvs_len]; exact rix_eq hR0) (rix_lt hR0), _, _, rfl, rfl, ?_⟩
        exact ⟨some (nv j), rfl, rfl⟩
      · rintro σ H'' ⟨u6, rfl, rfl⟩
        have hlt : win s (fun j => tb R (rix low R.length i j)) m < L.length := by
          rw [hl]
          exact win_lt s m fun j _ => tb_lt (by omega) hRs _
        refine ⟨_, rfl, .inl ⟨rfl, _, SqL.of hL⟩, _, rfl, c, _, _, _, rfl, rfl, sT sm r1, rfl, _, rfl, t, _, _, _, rfl, rfl, sT sm r2, at_k _ rfl hlt, p, _, _, rfl, rfl, hL, small_line (by rw [nvs_len, List.length_map, List.length_range]; omega), ?_⟩
        refine ⟨_, _, _, rfl, sUp sm hp, ?_⟩
        rw [upd_same, range_snoc (fun i => tb L (win s (fun j => tb R (rix low R.length i j)) m)) i]
    · rintro σ H' ⟨u4, u5, u6, rfl, sm, hL⟩
      exact ⟨_, rfl, kk _ p sm hp hL⟩
end
end K52
set_option Elab.async false
set_option maxRecDepth 100000
namespace K52
open PySem L2
structure RingOk (R : List Nat) (s : Nat) : Prop where
  pos : 0 < R.length
  le : R.length ≤ 100
  lt : ∀ d ∈ R, d < s
section
variable {P : Program} {w : World} {K : PySem.W.Frag} {mg : Str → Option Value} {base : Heap}
abbrev st__law_twins : Stmt := top 62
theorem sc__law_twins : FnScope ["_law_found", "_law_one", "_law_many", "_law_ring", "_law_sign"] ["_law_found", "_law_one", "_law_many"] (defScope st__law_twins) := ⟨rfl, rfl, rfl, by decide +kernel, rfl, by decide +kernel, by decide +kernel⟩
def sp_ltwins (K : PySem.W.Frag) : Sp := fun vs H Q _ => ∃ (p r1 r2 c : Addr) (s m : Nat) (low : Int) (L R1 R2 : List Nat), vs = [.ref p, .ref c, nv m] ∧ H p = some (.tup [.ref r1, .ref r2]) ∧ H r1 = some (.lst (nvs R1)) ∧ H r2 = some (.lst (nvs R2)) ∧ RuleAt K H c s low L ∧ L.length = s ^ m ∧ 1 ≤ s ∧ s ≤ 9 ∧ m ≤ 1000 ∧
  RingOk R1 s ∧ RingOk R2 s ∧ R1.length = R2.length ∧ R1 ≠ R2 ∧ onceL L s m low R1 = onceL L s m low R2 ∧ Pure H (.bl true) Q
theorem has_ltwins (F : FunC K mg "_law_twins" 62 ["_law_found", "_law_one", "_law_many"]) (T : Bt mg) (h__law_whole : Has P w K mg base 1 "_law_whole" ["_law_found"] sp_whole) (h__law_once : Has P w K mg base 1 "_law_once" ["_law_one", "_law_many", "_law_ring"] (sp_once K)) : Has P w K mg base 2 "_law_twins" ["_law_found", "_law_one", "_law_many"] (sp_ltwins K) := by
  obtain ⟨_, _, G__law_whole, C__law_whole⟩ := h__law_whole
  obtain ⟨_, _, G__law_once, C__law_once⟩ := h__law_once
  obtain ⟨f, fd, F, C⟩ := F
  refine ⟨f, fd, F.ok sc__law_twins (fun vs H Q E h => ?_) (fun cdv A outer s H vs Q E hr h => ?_), C⟩
  · obtain ⟨p, r1, r2, c, s, m, low, L, R1, R2, rfl, _⟩ := h
    rfl
  · obtain ⟨p, r1, r2, c, s, m, low, L, R1, R2, rfl, hp, h1, h2, rA, hl, hs1, hs9, hm, ok1, ok2, heq, hne, hon, kk⟩ := h
    refine ⟨_, (pss_cons (ps_if (PW.pt (pw_or (pt_not (pt_val (pe_callB call_isi (by rfl) T.isinstance (by decide +kernel) (pa_cons (pv 0) (pa_cons (pe_bltn (v := .ty "tuple") (by rfl) T.tuple (by decide +kernel) rfl) pa_nil))))) (pw_or1 (pt_cmpR op_ne (pe_callB call_len_seq (by rfl) T.len PySem.boot_len (pa_cons (pv 0) pa_nil)) pe_int (nomark _)))))
        (pss_one (ps_ret pe_bl))
        pss_nil)
      (pss_cons (ps_for PassesOwn.never rfl (pi_tup (pv 0)) (pg_name (i := 3) sc__law_twins.nd rfl (Or.inl rfl))
        (pss_cons (ps_if (PW.pt (pw_or (pt_not (pt_val (pe_callB call_isi (by rfl) T.isinstance (by decide +kernel) (pa_cons (pv 3) (pa_cons (pe_bltn (v := .ty "list") (by rfl) T.list (by decide +kernel) rfl) pa_nil))))) (pw_or (pt_cmpR op_eq (pe_callB call_len_seq (by rfl) T.len PySem.boot_len (pa_cons (pv 3) pa_nil)) pe_int (nomark _)) (pw_or1 (pt_cmpR op_gt (pe_callB call_len_seq (by rfl) T.len PySem.boot_len (pa_cons (pv 3) pa_nil)) pe_int (nomark _))))))
          (pss_one (ps_ret pe_bl))
          pss_nil)
        (pss_one (ps_for PassesOwn.never rfl (pi_list (pv 3)) (pg_name (i := 4) sc__law_twins.nd rfl (Or.inl rfl))
          (pss_one (ps_if (PW.pt (pw_or (pt_not (pt_val (pe_call G__law_whole hr rfl C__law_whole.mg C__law_whole.kp C__law_whole.b .nil pass0 (pa_cons (pv 4) pa_nil)))) (pw_or (pt_cmpR op_lt (pv 4) pe_int (nomark _)) (pw_or1 (pt_cmpR op_ge (pv 4) (pe_ix ix_tup (pv 1) pe_int (fun _ _ => rfl)) (nomark _))))))
            (pss_one (ps_ret pe_bl))
            pss_nil))))))
      (pss_cons (ps_if (PW.pt (pw_or (pt_cmpR op_ne (pe_callB call_len_seq (by rfl) T.len PySem.boot_len (pa_cons (pe_ix ix_tup (pv 0) pe_int (fun _ _ => rfl)) pa_nil)) (pe_callB call_len_seq (by rfl) T.len PySem.boot_len (pa_cons (pe_ix ix_tup (pv 0) pe_int (fun _ _ => rfl)) pa_nil)) (nomark _)) (pw_or1 (pt_cmpR (op_eqD hr.units) (pe_ix ix_tup (pv 0) pe_int (fun _ _ => rfl)) (pe_ix ix_tup (pv 0) pe_int (fun _ _ => rfl)) (nomark _)))))
        (pss_one (ps_ret pe_bl))
        pss_nil)
      (pss_one (ps_ret (pe_cmpR (op_eqD hr.units) (pe_call G__law_once hr rfl C__law_once.mg C__law_once.kp C__law_once.b .nil pass0 (pa_cons (pv 1) (pa_cons (pv 2) (pa_cons (pe_ix ix_tup (pv 0) pe_int (fun _ _ => rfl)) pa_nil)))) (pe_call G__law_once hr rfl C__law_once.mg C__law_once.kp C__law_once.b .nil pass0 (pa_cons (pv 1) (pa_cons (pv 2) (pa_cons (pe_ix ix_tup (pv 0) pe_int (fun _ _ => rfl)) pa_nil)))) (nomark _))))))), ?_⟩
    have em : ∀ l : List Nat, nvs l = (l.map fun (b : Nat) => (b : Int)).map V.int := fun l => by rw [List.map_map]; rfl
    have inj : ∀ l m : List Nat, (l.map fun (b : Nat) => (b : Int)) = (m.map fun (b : Nat) => (b : Int)) ↔ l = m := fun l m => List.map_inj_right (fun x y h => by have h : (x : Int) = (y : Int) := h; omega)
    obtain ⟨t, r1', r2'⟩ := id rA
    refine ⟨_, rfl, _, _, _, _, true, rfl, .ty "tuple", .base (.tup hp), kit_ty (by decide +kernel), _, rfl, ?_⟩
    refine iteF ?_
    refine ⟨_, rfl, p, _, rfl, .inr (SqT.of hp), rfl, _, rfl, ?_⟩
    refine ifNF rfl ?_
    refine ⟨_, rfl, p, rfl, ⟨_, SqT.of hp⟩, ?_⟩
    have body : ∀ (i : Nat) (r : Addr) (R : List Nat), H r = some (.lst (nvs R)) → RingOk R s → True := fun _ _ _ _ _ => trivial
    refine for_tup (K := K) (a := p) (xs := [.ref r1, .ref r2]) (fun i σ H' => ∃ u3 u4, σ = [some (.ref p), some (.ref c), some (nv m), u3, u4] ∧ H' = H) ⟨none, none, rfl, rfl⟩ (fun i σ H' _ ⟨_, _, _, e⟩ => e ▸ SqT.of hp) ?_ ?_
    · rintro i x σ H' hi ⟨u3, u4, rfl, rfl⟩
      obtain ⟨r, R, rfl, hr1, okR⟩ : ∃ r R, x = .ref r ∧ H' r = some (.lst (nvs R)) ∧ RingOk R s := by
        rcases i with _ | _ | i
        · cases hi
          exact ⟨r1, R1, rfl, h1, ok1⟩
        · cases hi
          exact ⟨r2, R2, rfl, h2, ok2⟩
        · cases hi
      have hpos := okR.pos
      have hle := okR.le
      refine ⟨_, rfl, _, _, _, _, true, rfl, .ty "list", .base (.lst hr1), kit_ty (by decide +kernel), _, rfl, ?_⟩
      refine iteF ?_
      refine ⟨_, rfl, r, _, rfl, .inl (SqL.of hr1), rfl, _, rfl, ?_⟩
      refine ifF (fun e => by have e : ((nvs R).length : Int) = 0 := V.int.inj e; rw [nvs_len] at e; omega) ?_
      refine ⟨_, rfl, r, _, rfl, .inl (SqL.of hr1), _, _, rfl, rfl, _, rfl, ?_⟩
      refine ifF (by rw [nvs_len]; omega) ?_
      refine ⟨_, rfl, r, rfl, ⟨_, SqL.of hr1⟩, ?_⟩
      refine for_list (K := K) (a := r) (xs := nvs R) (fun i σ H'' => ∃ u4, σ = [some (.ref p), some (.ref c), some (nv m), some (.ref r), u4] ∧ H'' = H') ⟨_, rfl, rfl⟩ (fun i σ H' _ ⟨_, _, e⟩ => e ▸ SqL.of hr1) ?_ ?_
      · rintro j x σ H'' hj ⟨u4, rfl, rfl⟩
        obtain ⟨n, hn, rfl⟩ := nvs_get hj
        have hns := okR.lt n (List.mem_of_getElem? hn)
        refine ⟨_, rfl, _, rfl, _, rfl, ?_⟩
        refine iteF ?_
        refine ⟨_, rfl, _, _, rfl, rfl, _, rfl, ?_⟩
        refine ifF (by omega) ?_
        refine ⟨_, rfl, _, rfl, c, _, _, _, rfl, rfl, r1', rfl, _, _, rfl, rfl, _, rfl, ?_⟩
        refine ifF (by omega) ?_
        exact ⟨_, rfl, rfl⟩
      · rintro σ H'' ⟨u4, rfl, rfl⟩
        exact ⟨_, _, rfl, rfl⟩
    · rintro σ H' ⟨u3, u4, rfl, rfl⟩
      refine ⟨_, rfl, p, _, _, _, rfl, rfl, SqT.of hp, rfl, r1, _, rfl, .inl (SqL.of h1), _, rfl, p, _, _, _, rfl, rfl, SqT.of hp, rfl, r2, _, rfl, .inl (SqL.of h2), rfl, _, rfl, ?_⟩
      refine ifNF (by rw [nvs_len, nvs_len, heq]) ?_
      refine ⟨_, rfl, p, _, _, _, rfl, rfl, SqT.of hp, rfl, _, rfl, p, _, _, _, rfl, rfl, SqT.of hp, rfl, _, _, dp_list (by rw [← em]; exact SqL.of h1), dp_list (by rw [← em]; exact SqL.of h2), shaped_list _, shaped_list _, _, rfl, ?_⟩
      rw [eqv_list]
      refine ifF (fun e => hne ((inj _ _).mp e)) ?_
      refine ⟨_, rfl, _, rfl, _, rfl, p, _, _, _, rfl, rfl, SqT.of hp, rfl, c, r1, s, m, low, L, R1, rfl, rA, hl, hs1, hs9, hm, SqL.of h1, ok1.pos, by have := ok1.le; omega, ok1.lt, fun H1 q1 s1 n1 hq1 => ?_⟩
      refine ⟨_, rfl, _, rfl, _, rfl, p, _, _, _, rfl, rfl, SqT.of (s1 _ _ hp), rfl, c, r2, s, m, low, L, R2, rfl, rA.same s1, hl, hs1, hs9, hm, SqL.of (s1 _ _ h2), ok2.pos, by have := ok2.le; omega, ok2.lt, fun H2 q2 s2 n2 hq2 => ?_⟩
      refine ⟨_, _, dp_list (by rw [← em]; exact SqL.of (s2 _ _ hq1)), dp_list (by rw [← em]; exact SqL.of hq2), shaped_list _, shaped_list _, ?_⟩
      rw [eqv_list, decide_eq_true ((inj _ _).mpr hon)]
      exact kk _ (s1.trans s2)
end
end K52
set_option Elab.async false
set_option maxRecDepth 100000
namespace K52
open PySem L2
/-! What the program's rank says of the law's table. -/
theorem rise_of_told {F : List Nat} {s N : Nat} {S : KS} (hs : 0 < s) (hF : ∀ d ∈ F, d < s) (hN : 0 < N) (hl : F.length = N * s) (T2 : Told (keysL N) (adjf (stepsF F s N)) S) (all : ∀ x ∈ keysL N, x ∈ S.ready) : RiseP F s N (rkI S) := by
  intro l r hl' hr he hn
  have hP := (mem_allP hF l r).mpr ⟨hl', hr, he⟩
  have O := stepsF_ok F s N
  have dv : ∀ x, x < F.length → x / s < N := fun x hx => by
    rw [hl] at hx
    exact Nat.div_lt_of_lt_mul (by rw [Nat.mul_comm]; exact hx)
  have hne : pn (l / s) (r / s) N ≠ 0 ∨ pn (l % N) (r % N) N ≠ 0 := by
    by_cases h : l / s = r / s
    · exact .inr fun z => hn ⟨h, (pn_zero hN).mp z⟩
    · exact .inl fun z => h ((pn_zero hN).mp z)
  obtain ⟨y, hy, ey⟩ := O.all (l, r) hP hne
  have hb := pn_mem_keysL (dv l hl') (dv r hr)
  obtain ⟨r0, h1, h2⟩ := T2.rk _ (all _ hb)
  obtain ⟨q, h3, h4⟩ := h2 (pn (l % N) (r % N) N) (List.mem_map.mpr ⟨y, hy, ey⟩)
  unfold rkI
  rw [h1, h3]
  show r0 < q
  omega
theorem told_of_rise {F : List Nat} {s N : Nat} {S : KS} {ρ : Nat → Nat} (hF : ∀ d ∈ F, d < s) (T2 : Told (keysL N) (adjf (stepsF F s N)) S) (R : RiseP F s N (fun i => (ρ i : Int))) : ∀ x ∈ keysL N, x ∈ S.ready := by
  refine told_all T2 ρ fun b _ e he => ?_
  obtain ⟨x, hx, rfl⟩ := List.mem_map.mp he
  obtain ⟨h1, h2, h3, h4⟩ := (stepsF_ok F s N).each b x hx
  obtain ⟨a1, a2, a3⟩ := (mem_allP hF x.2.1 x.2.2).mp h1
  have := R _ _ a1 a2 a3 fun z => by
    rw [z.1] at h2
    rw [z.2] at h3
    unfold pn at h2 h3
    rw [if_pos rfl] at h2 h3
    rcases h4 with h4 | h4
    · exact h4 h2.symm
    · exact h4 h3.symm
  rw [h2, h3] at this
  have this : (ρ b : Int) < (ρ x.1 : Int) := this
  omega
/-- a core rule, or a core rule spoiled, or any: told by a wide window -/
structure Core (L : List Nat) (s m : Nat) : Prop where
  s2 : 2 ≤ s
  s9 : s ≤ 9
  m1 : 1 ≤ m
  mx : m ≤ tb manyL (s - 2)
  len : L.length = s ^ m
  lt : ∀ d ∈ L, d < s
theorem manyL_p9 : ∀ s, s ≤ 9 → 2 ≤ s → ∀ m, m ≤ tb manyL (s - 2) → s ^ (max 2 m - 1) ≤ 9 ∧ m ≤ tb mostL (s - 2) ∧ max 2 m ≤ 4 := by decide
section
variable {L : List Nat} {s m a b : Nat} {low : Int}
theorem Core.p9 (c : Core L s m) : s ^ (lawSize L s m - 1) ≤ 9 := by
  have h := (manyL_p9 s c.s9 c.s2 m c.mx).1
  have hq : lawSize L s m ≤ max 2 m := lawSize_le
  have := c.s2
  exact Nat.le_trans (Nat.pow_le_pow_right (by omega) (by omega)) h
theorem Core.wide_lt (c : Core L s m) : ∀ d ∈ wideT L s m a b, d < s := by
  intro d hd
  unfold wideT at hd
  obtain ⟨k, _, rfl⟩ := List.mem_map.mp hd
  exact tb_lt (by have := c.s2; omega) c.lt _
theorem Core.fr (c : Core L s m) (low : Int) : (frameP (wideT L s m a b) s (a + m + b) low).2 = (lawSize L s m, lawFrame L s m) := frameP_eq low c.s2 c.len
theorem Core.small (c : Core L s m) (hab : a + m + b ≤ tb mostL (s - 2)) (low : Int) : Small (wideT L s m a b) s (a + m + b) low := by
  refine ⟨wide_len, c.s2, c.s9, by have := c.m1; omega, ?_, ?_⟩
  · exact Nat.le_trans (Nat.pow_le_pow_right (by have := c.s2; omega) hab) (mostL_pow s c.s9 c.s2)
  · rw [c.fr low]
    exact c.p9
theorem Core.FF (c : Core L s m) (low : Int) : FF (wideT L s m a b) s (a + m + b) low = lawFrame L s m := by
  show (frameP _ _ _ _).2.2 = _
  rw [c.fr low]
theorem Core.NN (c : Core L s m) (low : Int) : NN (wideT L s m a b) s (a + m + b) low = s ^ (lawSize L s m - 1) := by
  show (frameP _ _ _ _).2.2.length / s = _
  rw [c.fr low]
  show (lawFrame L s m).length / s = _
  have := c.s2
  have h2 := lawSize_ge L s m
  rw [lawFrame_len, show lawSize L s m = (lawSize L s m - 1) + 1 by omega, Nat.pow_succ]
  exact Nat.mul_div_cancel _ (by omega)
theorem Core.told (c : Core L s m) (hab : a + m + b ≤ tb mostL (s - 2)) (low : Int) : Told (keysL (s ^ (lawSize L s m - 1))) (adjf (stepsF (lawFrame L s m) s (s ^ (lawSize L s m - 1)))) (KR (wideT L s m a b) s (a + m + b) low) := by
  obtain ⟨_, _, hN9, hN0⟩ := small_frame (c.small hab low)
  have G : StG (KL (wideT L s m a b) s (a + m + b) low) (StF (wideT L s m a b) s (a + m + b) low) := stG_of hN0 hN9
  have T2 : Told (KL (wideT L s m a b) s (a + m + b) low) (adjf (StF (wideT L s m a b) s (a + m + b) low)) (KR (wideT L s m a b) s (a + m + b) low) := kahn_told G.gr
  have e1 : KL (wideT L s m a b) s (a + m + b) low = keysL (s ^ (lawSize L s m - 1)) := by unfold KL; rw [c.NN]
  have e2 : StF (wideT L s m a b) s (a + m + b) low = stepsF (lawFrame L s m) s (s ^ (lawSize L s m - 1)) := by unfold StF; rw [c.NN, c.FF]
  rw [e1, e2] at T2
  exact T2
theorem Core.frame_len (c : Core L s m) : (lawFrame L s m).length = s ^ (lawSize L s m - 1) * s := by
  have h2 := lawSize_ge L s m
  rw [lawFrame_len, ← Nat.pow_succ]
  congr 1
  omega
theorem Core.rise (c : Core L s m) (hab : a + m + b ≤ tb mostL (s - 2)) (low : Int) (h : Done (wideT L s m a b) s (a + m + b) low) : RiseP (lawFrame L s m) s (s ^ (lawSize L s m - 1)) (rkI (KR (wideT L s m a b) s (a + m + b) low)) := by
  have hs : 0 < s := by have := c.s2; omega
  have T2 := c.told hab low
  have hN0 : 0 < s ^ (lawSize L s m - 1) := Nat.pow_pos hs
  have e1 : KL (wideT L s m a b) s (a + m + b) low = keysL (s ^ (lawSize L s m - 1)) := by unfold KL; rw [c.NN]
  refine rise_of_told hs (lawFrame_lt hs c.lt) hN0 c.frame_len T2 (nodup_full T2.nd T2.sub (keysL_nd _) ?_)
  unfold Done at h
  rw [e1] at h
  omega
theorem Core.done (c : Core L s m) (hab : a + m + b ≤ tb mostL (s - 2)) (low : Int) {ρ : Nat → Nat} (R : RiseP (lawFrame L s m) s (s ^ (lawSize L s m - 1)) (fun i => (ρ i : Int))) : Done (wideT L s m a b) s (a + m + b) low := by
  have hs : 0 < s := by have := c.s2; omega
  have T2 := c.told hab low
  have all := told_of_rise (lawFrame_lt hs c.lt) T2 R
  have e1 : KL (wideT L s m a b) s (a + m + b) low = keysL (s ^ (lawSize L s m - 1)) := by unfold KL; rw [c.NN]
  unfold Done
  rw [e1]
  have := nodup_le (keysL_nd (s ^ (lawSize L s m - 1))) all
  omega
theorem rise_zp {F : List Nat} {N : Nat} {S : KS} (h : RiseP F s N (rkI S)) : Rise F s N (rkz (rkI S 0) fun u v => rkI S (pn u v N)) := by
  have e : ∀ u v, rkz (rkI S 0) (fun u v => rkI S (pn u v N)) (zp u v) = rkI S (pn u v N) := fun u v => by
    unfold zp rkz
    by_cases huv : u = v
    · rw [if_pos huv, if_pos rfl]
      unfold pn
      rw [if_pos huv]
    · rw [if_neg huv, if_neg huv]
  intro l r hl hr he hn
  rw [e, e]
  exact h l r hl hr he hn
/-- the law's families: one to one -/
theorem core_core {kind s m x10 x11 x12 x13 x14 : Nat} {names : List Nat} (hf : Fam kind s m) (hp : names.Perm (List.range s)) : Core (coreT kind s m x10 x11 x12 x13 x14 names) s m := by
  have f := hf.ok
  exact ⟨f.s2, f.s9, f.m1, f.mx, coreT_len _ _ _ _ _ _ _ _ _, coreT_lt f hp⟩
theorem spoil_ne {s x t : Nat} (hs : 2 ≤ s) (ht : t < s) : (t + 1 + x % (s - 1)) % s ≠ t := by
  have h := Nat.mod_lt x (show 0 < s - 1 by omega)
  generalize x % (s - 1) = y at h
  intro e
  by_cases h1 : t + 1 + y < s
  · rw [Nat.mod_eq_of_lt h1] at e
    omega
  · rw [Nat.mod_eq_sub_mod (by omega), Nat.mod_eq_of_lt (by omega)] at e
    omega
theorem spoil_core {n : Nat} (c : Core L s m) : Core (spoilT L s n) s m := by
  refine ⟨c.s2, c.s9, c.m1, c.mx, ?_, fun d hd => ?_⟩
  · unfold spoilT
    rw [List.length_set]
    exact c.len
  · unfold spoilT at hd
    rcases List.mem_or_eq_of_mem_set hd with h | h
    · exact c.lt d h
    · rw [h]
      exact Nat.mod_lt _ (by have := c.s2; omega)
theorem spoil_not {n : Nat} {ρ : Nat → Int} (c : Core L s m) (R : RiseP (lawFrame L s m) s (s ^ (lawSize L s m - 1)) ρ) (hab : a + m + b ≤ tb mostL (s - 2)) (low : Int) : ¬ Done (wideT (spoilT L s n) s m a b) s (a + m + b) low := by
  intro h
  have R' := (spoil_core (n := n) c).rise hab low h
  have hl : 0 < L.length := by rw [c.len]; exact Nat.pow_pos (by have := c.s2; omega)
  unfold spoilT at R'
  exact changed_not c.s2 c.m1 c.len c.lt R (by rw [← c.len]; exact Nat.mod_lt _ hl) (Nat.mod_lt _ (by have := c.s2; omega)) (spoil_ne c.s2 (tb_lt (by have := c.s2; omega) c.lt _)) R'
/-- the twins, led to one by the law's own table -/
theorem twins_law (c : Core L s m) (hab : a + m + b ≤ tb mostL (s - 2)) (low low2 : Int) (h : ¬ Done (wideT L s m a b) s (a + m + b) low) :
    RingOk (TW1 (wideT L s m a b) s (a + m + b) low) s ∧ RingOk (TW2 (wideT L s m a b) s (a + m + b) low) s ∧ (TW1 (wideT L s m a b) s (a + m + b) low).length = (TW2 (wideT L s m a b) s (a + m + b) low).length ∧
    TW1 (wideT L s m a b) s (a + m + b) low ≠ TW2 (wideT L s m a b) s (a + m + b) low ∧ onceL L s m low2 (TW1 (wideT L s m a b) s (a + m + b) low) = onceL L s m low2 (TW2 (wideT L s m a b) s (a + m + b) low) := by
  have hs : 0 < s := by have := c.s2; omega
  have CY := roundAbout_ok (some_back (c.small hab low) h)
  have hw : (wayL (wideT L s m a b) s (a + m + b) low).length ≤ 81 := by
    have h1 := nodup_le (r := keysL (s ^ (lawSize L s m - 1))) CY.nd fun x hx => by
      have h2 := (List.mem_filter.mp (CY.sub x hx)).1
      have e1 : KL (wideT L s m a b) s (a + m + b) low = keysL (s ^ (lawSize L s m - 1)) := by unfold KL; rw [c.NN]
      rwa [e1] at h2
    have h2 := keysL_len (N := s ^ (lawSize L s m - 1)) (Nat.pow_pos hs)
    have h3 := Nat.mul_le_mul c.p9 c.p9
    exact Nat.le_trans h1 (Nat.le_trans h2 h3)
  have hq4 : lawSize L s m ≤ 4 := by
    have h1 := (manyL_p9 s c.s9 c.s2 m c.mx).2.2
    have h2 : lawSize L s m ≤ max 2 m := lawSize_le
    omega
  have tw := twins_ok (K := someL (wideT L s m a b) s (a + m + b) low) (way := wayL (wideT L s m a b) s (a + m + b) low) c.s2 (lawSize_ge L s m) rfl c.frame_len (lawFrame_lt hs c.lt) (by
    have e2 : StF (wideT L s m a b) s (a + m + b) low = stepsF (lawFrame L s m) s (s ^ (lawSize L s m - 1)) := by unfold StF; rw [c.NN, c.FF]
    have CY : Cyc (someL (wideT L s m a b) s (a + m + b) low) (adjf (StF (wideT L s m a b) s (a + m + b) low)) (wayL (wideT L s m a b) s (a + m + b) low) := CY
    rw [e2] at CY
    exact CY)
  have t1 : TW1 (wideT L s m a b) s (a + m + b) low = tw1 s (lawSize L s m - 1) (stepsF (lawFrame L s m) s (s ^ (lawSize L s m - 1))) (wayL (wideT L s m a b) s (a + m + b) low) (wayL (wideT L s m a b) s (a + m + b) low).length := by
    unfold TW1 StF
    rw [c.NN, c.FF, c.fr low]
  have t2 : TW2 (wideT L s m a b) s (a + m + b) low = tw2 s (lawSize L s m - 1) (stepsF (lawFrame L s m) s (s ^ (lawSize L s m - 1))) (wayL (wideT L s m a b) s (a + m + b) low) (wayL (wideT L s m a b) s (a + m + b) low).length := by
    unfold TW2 StF
    rw [c.NN, c.FF, c.fr low]
  rw [← t1, ← t2] at tw
  generalize TW1 (wideT L s m a b) s (a + m + b) low = X1 at tw ⊢
  generalize TW2 (wideT L s m a b) s (a + m + b) low = X2 at tw ⊢
  obtain ⟨w1, w2, w3, w4, w5, w6, w7⟩ := tw
  refine ⟨⟨w2, by omega, w4⟩, ⟨by omega, by omega, w5⟩, w1, w6, ?_⟩
  unfold onceL
  rw [← w1]
  refine List.map_congr_left fun i _ => ?_
  have key : ∀ R : List Nat, 0 < R.length → (∀ d ∈ R, d < s) → R.length = X1.length → tb L (win s (fun j => tb R (rix low2 X1.length i j)) m) = tb (lawFrame L s m) (win s (fun j => R.getD ((rix low2 X1.length i (lawFirst L s m) + j) % R.length) 0) (lawSize L s m)) := fun R h0 hR hl => by
    rw [core_win c.s2 c.len fun j => tb_lt hs hR _]
    congr 1
    refine win_congr s _ fun j _ => ?_
    show R.getD (rix low2 X1.length i (lawFirst L s m + j)) 0 = _
    congr 1
    have e1 := rix_eq (low := low2) (i := i) (j := lawFirst L s m + j) (n := X1.length) (by omega)
    have e2 := rix_eq (low := low2) (i := i) (j := lawFirst L s m) (n := X1.length) (by omega)
    have e3 : (((rix low2 X1.length i (lawFirst L s m) + j) % R.length : Nat) : Int) = (rix low2 X1.length i (lawFirst L s m + j) : Int) := by
      rw [hl, ← e1]
      show (((rix low2 X1.length i (lawFirst L s m) : Nat) : Int) + (j : Int)) % (X1.length : Int) = _
      rw [← e2, Int.emod_add_emod]
      congr 1
      omega
    omega
  rw [key X1 w2 w4 rfl, key X2 (by omega) w5 w1.symm]
  exact w7 _
end
end K52
set_option Elab.async false
set_option maxRecDepth 100000
namespace K52
open PySem L2 LamX
theorem ruleAt_ext {K : PySem.W.Frag} {H H' : Hp} {a : Addr} {s : Nat} {low : Int} {L : List Nat} (r : RuleAt K H a s low L) (e : ExtN H H') : RuleAt K H' a s low L := by
  obtain ⟨t, h1, h2⟩ := r
  have go : ∀ {a : Addr} {xs : List V}, SqT K H a xs → SqT K H' a xs := fun {a xs} h => by
    rcases h with h | h
    · rcases h with h | ⟨o, h⟩
      · exact .inl (.inl (e _ _ h fun _ z => by cases z))
      · exact .inl (.inr ⟨o, e _ _ h fun _ z => by cases z⟩)
    · exact .inr h
  exact ⟨t, go h1, go h2⟩
theorem lawSize_lt {L : List Nat} {s m : Nat} : 1 ≤ lawSize L s m := by have := lawSize_ge L s m; omega
section
variable {P : Program} {w : World} {K : PySem.W.Frag} {mg : Str → Option Value} {base : Heap}
abbrev st_law : Stmt := top 63
theorem sc_law : FnScope ["_law_script", "_law_low_here", "_law_core_here", "_law_many", "_law_due", "_law_one", "_law_truth", "_law_found", "_law_table", "_law_size", "_law_held"] ["_law_script"] (defScope st_law) := ⟨rfl, rfl, rfl, by decide +kernel, rfl, by decide +kernel, by decide +kernel⟩
/-- what the law knows of its due answer -/
def DueV (L : List Nat) (s m : Nat) (v : V) : Prop := v = .non ∨ (v = .bl true ∧ ∀ a b low, a + m + b ≤ tb mostL (s - 2) → Done (wideT L s m a b) s (a + m + b) low) ∨ (v = .bl false ∧ ∀ a b low, a + m + b ≤ tb mostL (s - 2) → ¬ Done (wideT L s m a b) s (a + m + b) low)
def sp_law (K : PySem.W.Frag) (Pt : Addr) : Sp := fun vs H Q _ => ∃ (a : Addr) (ns : List Int), vs = [.ref a] ∧ SqL K H a (ns.map V.int) ∧ ns.length ≤ 2000000 ∧ Tabs (lamT Pt) H ∧ ∀ H', Q (.bl true) H'
theorem ok_law {Pt f : Addr} {fd : FuncData} (F : Fun K "law" "law" (top 63) f fd) (T : Bt mg) (h__law_low : Has P w K mg base 10 "_law_low" ["_law_cell"] sp_low) (h__law_cell_at : Has P w K mg base 10 "_law_cell_at" ["_law_script", "_law_k"] (sp_cell_at K)) (h__law_any : Has P w K mg base 10 "_law_any" ["_law_script", "_law_low_here"] (sp_any K)) (h__law_core : Has P w K mg base 10 "_law_core" ["_law_first", "_law_second", "_law_low_here"] (sp_core K Pt)) (h__law_spoiled : Has P w K mg base 10 "_law_spoiled" ["_law_core_here", "_law_number"] (sp_spoiled K)) (h__law_stream : Has P w K mg base 10 "_law_stream" ["_law_cell", "_law_many"] sp_stream) (h__law_wide : Has P w K mg base 10 "_law_wide" ["_law_core_here", "_law_many", "_law_cell"] (sp_wide K)) (h_one_to_one : Has P w K mg base 10 "one_to_one" ["one"] (sp_one_to_one K)) (h_twins : Has P w K mg base 10 "twins" ["one"] (sp_twins K)) (h__law_frame : Has P w K mg base 10 "_law_frame" ["_law_one", "_law_many"] (sp_lframe K)) (h__law_rises : Has P w K mg base 10 "_law_rises" ["_law_found", "_law_table", "_law_signs", "_law_size"] (sp_rises K)) (h_ranks : Has P w K mg base 10 "ranks" ["one"] (sp_ranks K)) (h__law_twins : Has P w K mg base 10 "_law_twins" ["_law_found", "_law_one", "_law_many"] (sp_ltwins K)) : FnOk P w K mg base CX0 11 f fd ["_law_script"] (sp_law K Pt) := by
  obtain ⟨_, _, G__law_low, C__law_low⟩ := h__law_low
  obtain ⟨_, _, G__law_cell_at, C__law_cell_at⟩ := h__law_cell_at
  obtain ⟨_, _, G__law_any, C__law_any⟩ := h__law_any
  obtain ⟨_, _, G__law_core, C__law_core⟩ := h__law_core
  obtain ⟨_, _, G__law_spoiled, C__law_spoiled⟩ := h__law_spoiled
  obtain ⟨_, _, G__law_stream, C__law_stream⟩ := h__law_stream
  obtain ⟨_, _, G__law_wide, C__law_wide⟩ := h__law_wide
  obtain ⟨_, _, G_one_to_one, C_one_to_one⟩ := h_one_to_one
  obtain ⟨_, _, G_twins, C_twins⟩ := h_twins
  obtain ⟨_, _, G__law_frame, C__law_frame⟩ := h__law_frame
  obtain ⟨_, _, G__law_rises, C__law_rises⟩ := h__law_rises
  obtain ⟨_, _, G_ranks, C_ranks⟩ := h_ranks
  obtain ⟨_, _, G__law_twins, C__law_twins⟩ := h__law_twins
  refine F.ok sc_law (fun vs H Q E h => ?_) (fun cdv A outer s H vs Q E hr h => ?_)
  · obtain ⟨a, ns, rfl, _⟩ := h
    rfl
  · obtain ⟨a, ns, rfl, hS, hlen, hT, kk⟩ := h
    refine ⟨_, (pss_cons (ps_set (i := 1) sc_law.nd rfl (Or.inl rfl) (pe_call G__law_low hr rfl C__law_low.mg C__law_low.kp C__law_low.b .nil pass0 (pa_cons (pe_call G__law_cell_at hr rfl C__law_cell_at.mg C__law_cell_at.kp C__law_cell_at.b .nil pass0 (pa_cons (pv 0) (pa_cons pe_int pa_nil))) pa_nil)))
      (pss_cons (ps_asg (pe_call G__law_any hr rfl C__law_any.mg C__law_any.kp C__law_any.b .nil pass0 (pa_cons (pv 0) (pa_cons (pv 1) pa_nil))) (pg_unl rfl (pgs_cons (pg_name (i := 2) sc_law.nd rfl (Or.inl rfl)) (pgs_cons (pg_name (i := 3) sc_law.nd rfl (Or.inl rfl)) pgs_nil))))
      (pss_cons (ps_set (i := 4) sc_law.nd rfl (Or.inl rfl) pe_non)
      (pss_cons (ps_if (pt_cmpR op_eq (pe_op op_mod (pe_call G__law_cell_at hr rfl C__law_cell_at.mg C__law_cell_at.kp C__law_cell_at.b .nil pass0 (pa_cons (pv 0) (pa_cons pe_int pa_nil))) pe_int) pe_int (nomark _))
        (pss_cons (ps_asg (pe_call G__law_core hr rfl C__law_core.mg C__law_core.kp C__law_core.b .nil pass0 (pa_cons (pe_op op_fdiv (pe_call G__law_cell_at hr rfl C__law_cell_at.mg C__law_cell_at.kp C__law_cell_at.b .nil pass0 (pa_cons (pv 0) (pa_cons pe_int pa_nil))) pe_int) (pa_cons (pe_call G__law_cell_at hr rfl C__law_cell_at.mg C__law_cell_at.kp C__law_cell_at.b .nil pass0 (pa_cons (pv 0) (pa_cons pe_int pa_nil))) (pa_cons (pv 1) pa_nil)))) (pg_unl rfl (pgs_cons (pg_name (i := 2) sc_law.nd rfl (Or.inl rfl)) (pgs_cons (pg_name (i := 3) sc_law.nd rfl (Or.inl rfl)) pgs_nil))))
        (pss_cons (ps_set (i := 4) sc_law.nd rfl (Or.inl rfl) pe_bl)
        (pss_one (ps_if (pt_cmpR op_eq (pe_op op_mod (pe_call G__law_cell_at hr rfl C__law_cell_at.mg C__law_cell_at.kp C__law_cell_at.b .nil pass0 (pa_cons (pv 0) (pa_cons pe_int pa_nil))) pe_int) pe_int (nomark _))
          (pss_cons (ps_set (i := 2) sc_law.nd rfl (Or.inl rfl) (pe_call G__law_spoiled hr rfl C__law_spoiled.mg C__law_spoiled.kp C__law_spoiled.b .nil pass0 (pa_cons (pv 2) (pa_cons (pe_ix ix_list (pe_call G__law_stream hr rfl C__law_stream.mg C__law_stream.kp C__law_stream.b .nil pass0 (pa_cons (pe_call G__law_cell_at hr rfl C__law_cell_at.mg C__law_cell_at.kp C__law_cell_at.b .nil pass0 (pa_cons (pv 0) (pa_cons pe_int pa_nil))) (pa_cons pe_int pa_nil))) pe_int (fun _ _ => rfl)) pa_nil))))
          (pss_one (ps_set (i := 4) sc_law.nd rfl (Or.inl rfl) pe_bl)))
          pss_nil))))
        pss_nil)
      (pss_cons (ps_set (i := 5) sc_law.nd rfl (Or.inl rfl) (pe_call G__law_wide hr rfl C__law_wide.mg C__law_wide.kp C__law_wide.b .nil pass0 (pa_cons (pv 2) (pa_cons (pv 3) (pa_cons (pe_op op_fdiv (pe_call G__law_cell_at hr rfl C__law_cell_at.mg C__law_cell_at.kp C__law_cell_at.b .nil pass0 (pa_cons (pv 0) (pa_cons pe_int pa_nil))) pe_int) pa_nil)))))
      (pss_cons (ps_set (i := 6) sc_law.nd rfl (Or.inl rfl) (pe_call G_one_to_one hr rfl C_one_to_one.mg C_one_to_one.kp C_one_to_one.b .nil pass0 (pa_cons (pv 5) pa_nil)))
      (pss_cons (ps_if (PW.pt (pw_or (pt_not (pt_val (pe_callB call_isi (by rfl) T.isinstance (by decide +kernel) (pa_cons (pv 6) (pa_cons (pe_bltn (v := .ty "bool") (by rfl) T.bool (by decide +kernel) rfl) pa_nil))))) (pw_or1 (PW.pt (pw_and (pt_cmpR op_notN (pv 4) pe_non (nomark _)) (pw_and1 (pt_cmpR op_ne (pv 6) (pv 4) (nomark _))))))))
        (pss_one (ps_ret pe_bl))
        pss_nil)
      (pss_cons (ps_set (i := 7) sc_law.nd rfl (Or.inl rfl) (pe_call G_twins hr rfl C_twins.mg C_twins.kp C_twins.b .nil pass0 (pa_cons (pv 5) pa_nil)))
      (pss_cons (ps_if (pt_val (pv 6))
        (pss_cons (ps_asg (pe_call G__law_frame hr rfl C__law_frame.mg C__law_frame.kp C__law_frame.b .nil pass0 (pa_cons (pv 2) (pa_cons (pv 3) pa_nil))) (pg_unl rfl (pgs_cons (pg_name (i := 8) sc_law.nd rfl (Or.inl rfl)) (pgs_cons (pg_name (i := 9) sc_law.nd rfl (Or.inl rfl)) pgs_nil))))
        (pss_one (ps_ret (pe_and (pe_cmpR op_isN (pv 7) pe_non (nomark _)) (pe_one (pe_call G__law_rises hr rfl C__law_rises.mg C__law_rises.kp C__law_rises.b .nil pass0 (pa_cons (pe_call G_ranks hr rfl C_ranks.mg C_ranks.kp C_ranks.b .nil pass0 (pa_cons (pv 5) pa_nil)) (pa_cons (pv 8) (pa_cons (pe_ix ix_tup (pv 2) pe_int (fun _ _ => rfl)) (pa_cons (pv 9) pa_nil))))))))))
        pss_nil)
      (pss_cons (ps_if (PW.pt (pw_or (pt_cmpR op_notN (pe_call G_ranks hr rfl C_ranks.mg C_ranks.kp C_ranks.b .nil pass0 (pa_cons (pv 5) pa_nil)) pe_non (nomark _)) (pw_or1 (pt_not (pt_val (pe_call G__law_twins hr rfl C__law_twins.mg C__law_twins.kp C__law_twins.b .nil pass0 (pa_cons (pv 7) (pa_cons (pv 2) (pa_cons (pv 3) pa_nil)))))))))
        (pss_one (ps_ret pe_bl))
        pss_nil)
      (pss_cons (ps_set (i := 10) sc_law.nd rfl (Or.inl rfl) (pe_tup (pa_cons (pe_callTy call_list_of (by rfl) T.list (by decide +kernel) (pa_cons (pe_ix ix_tup (pv 7) pe_int (fun _ _ => rfl)) pa_nil)) (pa_cons (pe_callTy call_list_of (by rfl) T.list (by decide +kernel) (pa_cons (pe_ix ix_tup (pv 7) pe_int (fun _ _ => rfl)) pa_nil)) pa_nil))))
      (pss_cons (ps_expr (pe_bm PySem.F.plainAttrs_list PySem.F.slot_list_append PySem.F.type_list_append mt_append (pe_ix ix_tup (pv 7) pe_int (fun _ _ => rfl)) (pa_cons pe_int pa_nil)))
      (pss_one (ps_ret (pe_cmpR (op_eqD hr.units) (pe_call G_twins hr rfl C_twins.mg C_twins.kp C_twins.b .nil pass0 (pa_cons (pv 5) pa_nil)) (pv 10) (nomark _)))))))))))))))), ?_⟩
    refine ⟨_, rfl, a, 2, ns, rfl, hS, ns.getD 2 0, rfl, fun low => ?_⟩
    refine ⟨_, rfl, _, rfl, a, low, ns, rfl, hS, hlen, fun s m L hs2 hs9 hm1 hmx hLl hLs H1 p r s1 np nr hp rA => ?_⟩
    refine ⟨p, _, rfl, SqL.of hp, rfl, _, _, rfl, _, _, rfl, rfl, ?_⟩
    have c0 : Core L s m := ⟨hs2, hs9, hm1, hmx, hLl, hLs⟩
    dsimp only
    refine seqCut (fun σ H' => σ = [some (.ref a), some (.int low), some (.ref r), some (nv m), some .non, none, none, none, none, none, none] ∧ H' = H1) ?_ ?_
    rotate_left
    · intro N hN
      exact hN _ _ ⟨rfl, rfl⟩
    rintro σ H' ⟨rfl, rfl⟩
    refine seqCut (fun σ H' => ∃ (r : Addr) (s m : Nat) (L : List Nat) (v : V), σ = [some (.ref a), some (.int low), some (.ref r), some (nv m), some v, none, none, none, none, none, none] ∧ SqL K H' a (ns.map V.int) ∧ RuleAt K H' r s low L ∧ Core L s m ∧ DueV L s m v) ?_ ?_
    rotate_left
    · intro N hN
      refine ⟨_, rfl, a, 0, ns, rfl, s1.seq hS, _, _, rfl, rfl, (by show (0 : Int) < 2; decide), rfl, _, rfl, ?_⟩
      refine if2 (fun h => ?_) (fun h => ?_)
      · refine ⟨_, rfl, a, 0, ns, rfl, s1.seq hS, _, _, rfl, rfl, ⟨by decide, by decide⟩, _, rfl, a, 1, ns, rfl, s1.seq hS, _, rfl, ns.getD 0 0 / 2, ns.getD 1 0, low, rfl, hT.ext s1, fun kind s m x10 x11 x12 x13 x14 names hf hperm H2 p2 r2 e2 hp2 rA2 => ?_⟩
        refine ⟨p2, _, rfl, SqL.of hp2, rfl, _, _, rfl, _, _, rfl, rfl, ?_⟩
        have c := core_core (x10 := x10) (x11 := x11) (x12 := x12) (x13 := x13) (x14 := x14) hf hperm
        obtain ⟨ρ, R⟩ := fam_rise (x10 := x10) (x11 := x11) (x12 := x12) (x13 := x13) (x14 := x14) hf hperm
        have hS2 : SqL K H2 a (ns.map V.int) := sql_ext e2 (s1.seq hS)
        generalize coreT kind s m x10 x11 x12 x13 x14 names = L2 at c R rA2
        refine ⟨_, rfl, a, 3, ns, rfl, hS2, _, _, rfl, rfl, (by show (0 : Int) < 4; decide), rfl, _, rfl, ?_⟩
        refine if2 (fun h3 => ?_) (fun h3 => ?_)
        · refine ⟨_, rfl, _, rfl, a, 3, ns, rfl, hS2, ns.getD 3 0, 1, rfl, by omega, fun H3 x s3 nx hx => ?_⟩
          have hx0 : atI (nvs (strL (ns.getD 3 0) 1)) 0 = some (nv (tb (strL (ns.getD 3 0) 1) 0)) := at_k 0 rfl (by unfold strL; simp)
          refine ⟨x, _, _, _, rfl, rfl, SqL.of hx, hx0, ?_⟩
          generalize tb (strL (ns.getD 3 0) 1) 0 = n
          refine ⟨r2, s, n, low, L2, rfl, rA2.same s3, by rw [c.len]; exact Nat.pow_pos (by have := c.s2; omega), ?_, c.s2, c.s9, fun H4 r4 s4 n4 rA4 => ?_⟩
          · rw [c.len]
            have := manyL_pow s c.s9 c.s2 m c.mx
            omega
          · refine hN _ _ ⟨r4, s, m, spoilT L2 s n, _, rfl, (s3.trans s4).seq hS2, rA4, spoil_core c, .inr (.inr ⟨rfl, fun a b low hab => spoil_not c R hab low⟩)⟩
        · exact hN _ _ ⟨r2, s, m, L2, _, rfl, hS2, rA2, c, .inr (.inl ⟨rfl, fun a b low hab => c.done hab low R⟩)⟩
      · exact hN _ _ ⟨r, s, m, L, _, rfl, s1.seq hS, rA, c0, .inl rfl⟩
    clear rA c0 hs2 hs9 hm1 hmx hLl hLs hp s1 np nr
    rintro σ H2 ⟨r, s, m, L, v, rfl, hS2, rA, c, due⟩
    have mxm : m ≤ tb mostL (s - 2) := (manyL_p9 s c.s9 c.s2 m c.mx).2.1
    have s81 := manyL_pow s c.s9 c.s2 m c.mx
    have hm8 : m ≤ 8 := by have := (manyL_p9 s c.s9 c.s2 m c.mx).2.2; omega
    have hs2 := c.s2
    have hs9 := c.s9
    refine ⟨_, rfl, _, rfl, _, rfl, a, 3, ns, rfl, hS2, _, _, rfl, rfl, ⟨by decide, by decide⟩, r, s, m, ns.getD 3 0 / 4, low, L, rfl, rA, c.len, hs2, hs9, mxm, fun wa wb hab H3 one s3 n3 rO => ?_⟩
    have hsm := c.small hab (low - wa)
    have hwl := c.wide_lt (a := wa) (b := wb)
    refine ⟨_, rfl, one, s, wa + m + wb, low - wa, wideT L s m wa wb, rfl, rO, hsm, hwl, fun H4 s4 => ?_⟩
    have rO4 := rO.same s4
    have rA4 := rA.same (s3.trans s4)
    dsimp only
    refine seqCut (fun σ H' => σ = [some (.ref a), some (.int low), some (.ref r), some (nv m), some v, some (.ref one), some (.bl (decide (Done (wideT L s m wa wb) s (wa + m + wb) (low - wa)))), none, none, none, none] ∧ H' = H4) ?_ ?_
    rotate_left
    · intro N hN
      refine ⟨_, rfl, _, _, _, _, true, rfl, .ty "bool", .base (.bl _), kit_ty (by decide +kernel), _, rfl, ?_⟩
      refine iteF ?_
      refine ⟨_, rfl, rfl, _, rfl, ?_⟩
      -- the due answer is given
      have past : ∀ (A B : Prop), (v = .non → B) → (v ≠ .non → v = .bl (decide (Done (wideT L s m wa wb) s (wa + m + wb) (low - wa))) → A) → (if (!decide (v = .non)) = true then A else B) := fun A B h1 h2 => by
        rcases due with rfl | ⟨rfl, hd⟩ | ⟨rfl, hd⟩
        · exact ifNF rfl (h1 rfl)
        · refine ifNT (by intro z; cases z) (h2 (by intro z; cases z) ?_)
          rw [decide_eq_true (hd wa wb (low - wa) hab)]
        · refine ifNT (by intro z; cases z) (h2 (by intro z; cases z) ?_)
          rw [decide_eq_false (hd wa wb (low - wa) hab)]
      refine past _ _ (fun e => ?_) (fun e0 e => ?_)
      · exact hN _ _ ⟨rfl, rfl⟩
      · rw [e]
        refine ⟨_, rfl, _, rfl, rfl, _, rfl, ?_⟩
        refine ifNF rfl ?_
        exact hN _ _ ⟨by rw [e]; rfl, rfl⟩
    rintro σ H' ⟨rfl, rfl⟩
    by_cases hD : Done (wideT L s m wa wb) s (wa + m + wb) (low - wa)
    · refine ⟨_, rfl, one, s, wa + m + wb, low - wa, wideT L s m wa wb, rfl, rO4, hsm, hwl, fun _ H5 s5 => ?_, fun h => absurd hD h⟩
      refine ⟨_, rfl, _, rfl, ?_⟩
      rw [decide_eq_true hD]
      refine iteT ?_
      refine ⟨_, rfl, _, rfl, r, s, m, low, L, rfl, rA4.same s5, c.len, by omega, hs2, hs9, hm8, fun H6 q t s6 nq nt hq ht => ?_⟩
      refine ⟨q, _, rfl, SqL.of hq, rfl, _, _, rfl, _, _, rfl, rfl, ?_⟩
      refine ⟨_, rfl, rfl, _, rfl, ?_⟩
      refine iteT ?_
      refine ⟨_, rfl, one, s, wa + m + wb, low - wa, wideT L s m wa wb, rfl, (rO4.same s5).same s6, hsm, hwl, fun h => absurd hD h, fun _ H7 fp fr ts s7 n7 h7 hr7 rows => ?_⟩
      have rA7 := ((rA4.same s5).same s6).same s7
      obtain ⟨ta, ra1, ra2⟩ := rA7
      have hs0 : 0 < s := by omega
      refine ⟨_, rfl, _, rfl, r, _, _, _, rfl, rfl, ra1, rfl, _, rfl, ?_⟩
      rw [c.NN] at rows
      refine ⟨fp, fr, t, s, lawSize L s m, _, ts, _, lawFrame L s m, rfl, SqL.of (s7 _ _ ht), lawFrame_len _ _ _, lawSize_lt, ?_, hs2, hs9, c.p9, lawFrame_lt hs0 c.lt, h7, hr7, rows, ?_, fun H8 s8 => kk H8⟩
      · have h1 : lawSize L s m ≤ max 2 m := lawSize_le
        omega
      · have h1 := rise_zp (c.rise hab (low - wa) hD)
        have h2 : rkP (wideT L s m wa wb) s (wa + m + wb) (low - wa) = fun u v => rkI (KR (wideT L s m wa wb) s (wa + m + wb) (low - wa)) (pn u v (s ^ (lawSize L s m - 1))) := by
          funext u v
          unfold rkP
          rw [c.NN]
        rw [h2]
        exact h1
    · refine ⟨_, rfl, one, s, wa + m + wb, low - wa, wideT L s m wa wb, rfl, rO4, hsm, hwl, fun h => absurd h hD, fun _ H5 fp r1 r2 s5 n5 nr1 h5 hr1 hr2 => ?_⟩
      refine ⟨_, rfl, _, rfl, ?_⟩
      rw [decide_eq_false hD]
      refine iteF ?_
      refine ⟨_, rfl, one, s, wa + m + wb, low - wa, wideT L s m wa wb, rfl, rO4.same s5, hsm, hwl, fun _ H6 s6 => ?_, fun h => absurd h hD⟩
      refine ⟨rfl, _, rfl, ?_⟩
      refine ifNF rfl ?_
      obtain ⟨ok1, ok2, heq, hne, hon⟩ := twins_law c hab (low - wa) low hD
      refine ⟨_, rfl, _, rfl, _, rfl, fp, r1, r2, r, s, m, low, L, TW1 (wideT L s m wa wb) s (wa + m + wb) (low - wa), TW2 (wideT L s m wa wb) s (wa + m + wb) (low - wa), rfl, s6 _ _ h5, s6 _ _ hr1, s6 _ _ hr2, (rA4.same s5).same s6, c.len, by omega, hs9, by omega, ok1, ok2, heq, hne, hon, fun H7 s7 => ?_⟩
      refine ⟨_, rfl, ?_⟩
      refine iteF ?_
      have h57 := s7 _ _ (s6 _ _ h5)
      have h17 := s7 _ _ (s6 _ _ hr1)
      have h27 := s7 _ _ (s6 _ _ hr2)
      have s57 := (s5.trans s6).trans s7
      generalize hX1 : TW1 (wideT L s m wa wb) s (wa + m + wb) (low - wa) = X1 at *
      generalize hX2 : TW2 (wideT L s m wa wb) s (wa + m + wb) (low - wa) = X2 at *
      refine ⟨_, rfl, fp, _, _, _, rfl, rfl, SqT.of h57, rfl, r1, _, rfl, .inl (SqL.of h17), fun l1 hl1 => ?_⟩
      have s8 : Same H7 (L2.upd H7 l1 (.lst (nvs X1))) := sNew hl1
      have hL1 : (L2.upd H7 l1 (.lst (nvs X1))) l1 = some (.lst (nvs X1)) := upd_same
      generalize L2.upd H7 l1 (.lst (nvs X1)) = H8 at s8 hL1 ⊢
      refine ⟨_, rfl, fp, _, _, _, rfl, rfl, SqT.of (s8 _ _ h57), rfl, r2, _, rfl, .inl (SqL.of (s8 _ _ h27)), fun l2 hl2 => ?_⟩
      have s9 : Same H8 (L2.upd H8 l2 (.lst (nvs X2))) := sNew hl2
      have hL2 : (L2.upd H8 l2 (.lst (nvs X2))) l2 = some (.lst (nvs X2)) := upd_same
      generalize L2.upd H8 l2 (.lst (nvs X2)) = H9 at s9 hL2 ⊢
      refine ⟨by show 2 ≤ sizeLine; decide, fun hd hhd => ?_⟩
      have s10 : Same H9 (L2.upd H9 hd (.tup [.ref l1, .ref l2])) := sNew hhd
      have hHd : (L2.upd H9 hd (.tup [.ref l1, .ref l2])) hd = some (.tup [.ref l1, .ref l2]) := upd_same
      generalize L2.upd H9 hd (.tup [.ref l1, .ref l2]) = H10 at s10 hHd ⊢
      have s710 : Same H7 H10 := (s8.trans s9).trans s10
      have a1 := s710 _ _ h17
      have n1 : l1 ≠ r1 := fun e => by rw [e, h17] at hl1; cases hl1
      have n2 : l2 ≠ r1 := fun e => by rw [e, s8 _ _ h17] at hl2; cases hl2
      have n3 : hd ≠ r1 := fun e => by rw [e, a1] at hHd; cases hHd
      refine ⟨_, rfl, fp, _, _, _, rfl, rfl, SqT.of (s710 _ _ h57), rfl, .inl ⟨rfl, _, SqL.of a1⟩, r1, _, _, rfl, rfl, a1, small_line (by rw [nvs_len]; have := ok1.le; omega), ?_⟩
      have sb : Same H' (L2.upd H10 r1 (.lst (nvs X1 ++ [.int 0]))) := sUp (s57.trans s710) nr1
      have b1 : (L2.upd H10 r1 (.lst (nvs X1 ++ [.int 0]))) l1 = some (.lst (nvs X1)) := by rw [upd_ne n1]; exact s10 _ _ (s9 _ _ hL1)
      have b2 : (L2.upd H10 r1 (.lst (nvs X1 ++ [.int 0]))) l2 = some (.lst (nvs X2)) := by rw [upd_ne n2]; exact s10 _ _ hL2
      have b3 : (L2.upd H10 r1 (.lst (nvs X1 ++ [.int 0]))) hd = some (.tup [.ref l1, .ref l2]) := by rw [upd_ne n3]; exact hHd
      generalize L2.upd H10 r1 (.lst (nvs X1 ++ [.int 0])) = H11 at sb b1 b2 b3 ⊢
      refine ⟨_, rfl, one, s, wa + m + wb, low - wa, wideT L s m wa wb, rfl, rO4.same sb, hsm, hwl, fun h => absurd h hD, fun _ H12 gp g1 g2 s12 n12 ng1 h12 hg1 hg2 => ?_⟩
      rw [hX1] at hg1
      rw [hX2] at hg2
      have em : ∀ l : List Nat, nvs l = (l.map fun (b : Nat) => (b : Int)).map V.int := fun l => by rw [List.map_map]; rfl
      have dpl : ∀ (H : Hp) (x : Addr) (l : List Nat), H x = some (.lst (nvs l)) → Dp K H (.ref x) (.list (dl (l.map fun (b : Nat) => (b : Int)))) := fun H x l h => dp_list (by rw [← em]; exact SqL.of h)
      refine ⟨_, rfl, _, _, .tup (SqT.of h12) (.cons (dpl _ _ _ hg1) (.cons (dpl _ _ _ hg2) .nil)), .tup (SqT.of (s12 _ _ b3)) (.cons (dpl _ _ _ (s12 _ _ b1)) (.cons (dpl _ _ _ (s12 _ _ b2)) .nil)), shaped_two _ _, shaped_two _ _, ?_⟩
      rw [eqv_two, decide_eq_true rfl, decide_eq_true rfl]
      exact kk H12
end
end K52
set_option Elab.async false
set_option maxRecDepth 100000
namespace K52
open PySem L2 LamX
/-- the text's defs, as the top has left them -/
structure Defs (K : PySem.W.Frag) (mg : Str → Option Value) (cc : Addr) : Prop where
  bt : Bt mg
  gb : Gb mg
  f__law_low : FunC K mg "_law_low" 51 ["_law_cell"]
  f__law_cell_at : FunC K mg "_law_cell_at" 39 ["_law_script", "_law_k"]
  f__law_power : FunC K mg "_law_power" 41 ["_law_signs", "_law_many"]
  f__law_stream : FunC K mg "_law_stream" 40 ["_law_cell", "_law_many"]
  f__law_any : FunC K mg "_law_any" 58 ["_law_script", "_law_low_here"]
  f__law_word : FunC K mg "_law_word" 42 ["_law_number", "_law_signs", "_law_many"]
  f__law_flip : FunC K mg "_law_flip" 48 ["_law_xs", "_law_word_here"]
  f__law_tracks : FunC K mg "_law_tracks" 43 ["_law_signs", "_law_xs", "_law_here", "_law_there"]
  f__law_marks : FunC K mg "_law_marks" 44 ["_law_signs", "_law_xs", "_law_here", "_law_there"]
  f__law_sums : FunC K mg "_law_sums" 45 ["_law_signs", "_law_xs", "_law_here", "_law_there"]
  f__law_three : FunC K mg "_law_three" 46 ["_law_here", "_law_there"]
  f__law_steps_down : FunC K mg "_law_steps_down" 47 ["_law_signs", "_law_here", "_law_there"]
  f__law_told : FunC K mg "_law_told" 49 ["_law_kind", "_law_signs", "_law_xs", "_law_word_here"]
  f__law_core : FunCode K mg "_law_core" 50 cc ["_law_first", "_law_second", "_law_low_here"]
  f__law_spoiled : FunC K mg "_law_spoiled" 59 ["_law_core_here", "_law_number"]
  f__law_seen : FunC K mg "_law_seen" 52 ["_law_core_here", "_law_many", "_law_low_here", "_law_word_here"]
  f__law_wide : FunC K mg "_law_wide" 53 ["_law_core_here", "_law_many", "_law_cell"]
  f_nodes_of : FunC K mg "nodes_of" 24 ["found"]
  f_exponent : FunC K mg "exponent" 11 ["signs", "size"]
  f_places : FunC K mg "places" 12 ["one"]
  f_counts_at : FunC K mg "counts_at" 15 ["table", "signs", "weight"]
  f_counting : FunC K mg "counting" 16 ["one"]
  f_power : FunC K mg "power" 10 ["signs", "many"]
  f_value : FunC K mg "value" 6 ["word", "signs"]
  f_sign_within : FunC K mg "sign_within" 17 ["one", "low", "word"]
  f_word_of : FunC K mg "word_of" 7 ["number", "signs", "many"]
  f_by_window : FunC K mg "by_window" 18 ["one", "low", "many"]
  f_narrow : FunC K mg "narrow" 19 ["one"]
  f_fits : FunC K mg "fits" 14 ["signs", "many"]
  f_widened : FunC K mg "widened" 20 ["one", "low", "high"]
  f_frame : FunC K mg "frame" 23 ["one"]
  f_nodes : FunC K mg "nodes" 25 ["one"]
  f_pair_number : FunC K mg "pair_number" 27 ["u", "v", "many"]
  f_words_told : FunC K mg "words_told" 28 ["here"]
  f_pair_steps : FunC K mg "pair_steps" 29 ["one"]
  f_steps_counted : FunC K mg "steps_counted" 30 ["steps"]
  f_ranked : FunC K mg "ranked" 31 ["steps"]
  f_ranks : FunC K mg "ranks" 32 ["one"]
  f_one_to_one : FunC K mg "one_to_one" 33 ["one"]
  f_stepping_to : FunC K mg "stepping_to" 34 ["steps", "some", "end"]
  f_round_about : FunC K mg "round_about" 35 ["steps", "some"]
  f_twins : FunC K mg "twins" 36 ["one"]
  f__law_counts : FunC K mg "_law_counts" 54 ["_law_one", "_law_many", "_law_j"]
  f__law_frame : FunC K mg "_law_frame" 55 ["_law_one", "_law_many"]
  f__law_whole : FunC K mg "_law_whole" 38 ["_law_found"]
  f__law_ranks : FunC K mg "_law_ranks" 57 ["_law_found", "_law_many"]
  f__law_steps : FunC K mg "_law_steps" 56 ["_law_table", "_law_signs", "_law_size"]
  f__law_rises : FunC K mg "_law_rises" 60 ["_law_found", "_law_table", "_law_signs", "_law_size"]
  f__law_once : FunC K mg "_law_once" 61 ["_law_one", "_law_many", "_law_ring"]
  f__law_twins : FunC K mg "_law_twins" 62 ["_law_found", "_law_one", "_law_many"]
theorem law_all {P : Program} {w : World} {K : PySem.W.Frag} {mg : Str → Option Value} {base : Heap} {cc Pt f : Addr} {fd : FuncData} (D : Defs K mg cc) (TB : TabB base mg cc Pt) (F : Fun K "law" "law" (top 63) f fd) : FnOk P w K mg base CX0 11 f fd ["_law_script"] (sp_law K Pt) := by
  have v__law_low := has_low (P := P) (w := w) (base := base) D.f__law_low
  have v__law_cell_at := has_cell_at (P := P) (w := w) (base := base) D.f__law_cell_at D.bt
  have v__law_power := has_lpower (P := P) (w := w) (base := base) D.f__law_power D.bt
  have v__law_stream := has_stream (P := P) (w := w) (base := base) D.f__law_stream D.bt
  have v__law_any := has_any (P := P) (w := w) (base := base) D.f__law_any D.bt (v__law_cell_at.mono (by decide)) (v__law_power.mono (by decide)) (v__law_stream.mono (by decide))
  have v__law_word := has_word (P := P) (w := w) (base := base) D.f__law_word D.bt
  have v__law_flip := has_flip (P := P) (w := w) (base := base) D.f__law_flip D.bt
  have v__law_tracks := has_tracks (P := P) (w := w) (base := base) D.f__law_tracks D.bt
  have v__law_marks := has_marks (P := P) (w := w) (base := base) D.f__law_marks
  have v__law_sums := has_sums (P := P) (w := w) (base := base) D.f__law_sums
  have v__law_three := has_three (P := P) (w := w) (base := base) D.f__law_three
  have v__law_steps_down := has_down (P := P) (w := w) (base := base) D.f__law_steps_down D.bt
  have v__law_told := has_told (P := P) (w := w) (base := base) D.f__law_told D.bt (v__law_flip.mono (by decide)) (v__law_tracks.mono (by decide)) (v__law_marks.mono (by decide)) (v__law_sums.mono (by decide)) (v__law_three.mono (by decide)) (v__law_steps_down.mono (by decide))
  have v__law_core := has_core (P := P) (w := w) (base := base) D.f__law_core TB D.bt (v__law_stream.mono (by decide)) (v__law_power.mono (by decide)) (v__law_word.mono (by decide)) (v__law_told.mono (by decide))
  have v__law_spoiled := has_spoiled (P := P) (w := w) (base := base) D.f__law_spoiled D.bt
  have v__law_seen := has_seen (P := P) (w := w) (base := base) D.f__law_seen D.bt
  have v__law_wide := has_wide (P := P) (w := w) (base := base) D.f__law_wide D.bt (v__law_power.mono (by decide)) (v__law_seen.mono (by decide)) (v__law_word.mono (by decide))
  have v_nodes_of := has_nodes_of (P := P) (w := w) (base := base) D.f_nodes_of D.bt
  have v_exponent := has_exponent (P := P) (w := w) (base := base) D.f_exponent
  have v_places := has_places (P := P) (w := w) (base := base) D.f_places D.bt (v_exponent.mono (by decide))
  have v_counts_at := has_counts_at (P := P) (w := w) (base := base) D.f_counts_at D.bt
  have v_counting := has_counting (P := P) (w := w) (base := base) D.f_counting D.bt (v_places.mono (by decide)) (v_counts_at.mono (by decide))
  have v_power := has_power (P := P) (w := w) (base := base) D.f_power D.bt
  have v_value := has_value (P := P) (w := w) (base := base) D.f_value
  have v_sign_within := has_sign_within (P := P) (w := w) (base := base) D.f_sign_within D.bt (v_places.mono (by decide)) (v_value.mono (by decide))
  have v_word_of := has_word_of (P := P) (w := w) (base := base) D.f_word_of D.bt
  have v_by_window := has_by_window (P := P) (w := w) (base := base) D.f_by_window D.bt (v_power.mono (by decide)) (v_sign_within.mono (by decide)) (v_word_of.mono (by decide))
  have v_narrow := has_narrow (P := P) (w := w) (base := base) D.f_narrow (v_counting.mono (by decide)) (v_by_window.mono (by decide))
  have v_fits := has_fits (P := P) (w := w) (base := base) D.f_fits D.gb (v_power.mono (by decide))
  have v_widened := has_widened (P := P) (w := w) (base := base) D.f_widened (v_counting.mono (by decide)) (v_fits.mono (by decide)) (v_by_window.mono (by decide))
  have v_frame := has_frame (P := P) (w := w) (base := base) D.f_frame D.gb (v_narrow.mono (by decide)) (v_places.mono (by decide)) (v_widened.mono (by decide)) (v_power.mono (by decide))
  have v_nodes := has_nodes (P := P) (w := w) (base := base) D.f_nodes (v_nodes_of.mono (by decide)) (v_frame.mono (by decide))
  have v_pair_number := has_pair_number (P := P) (w := w) (base := base) D.f_pair_number
  have v_words_told := has_words_told (P := P) (w := w) (base := base) D.f_words_told D.bt
  have v_pair_steps := has_pair_steps (P := P) (w := w) (base := base) D.f_pair_steps D.bt (v_frame.mono (by decide)) (v_nodes.mono (by decide)) (v_pair_number.mono (by decide)) (v_words_told.mono (by decide))
  have v_steps_counted := has_steps_counted (P := P) (w := w) (base := base) D.f_steps_counted
  have v_ranked := has_ranked (P := P) (w := w) (base := base) D.f_ranked D.bt (v_steps_counted.mono (by decide))
  have v_ranks := has_ranks (P := P) (w := w) (base := base) D.f_ranks D.bt (v_nodes.mono (by decide)) (v_pair_steps.mono (by decide)) (v_ranked.mono (by decide)) (v_pair_number.mono (by decide))
  have v_one_to_one := has_one_to_one (P := P) (w := w) (base := base) D.f_one_to_one (v_ranks.mono (by decide))
  have v_stepping_to := has_stepping_to (P := P) (w := w) (base := base) D.f_stepping_to
  have v_round_about := has_round_about (P := P) (w := w) (base := base) D.f_round_about D.bt (v_stepping_to.mono (by decide))
  have v_twins := has_twins (P := P) (w := w) (base := base) D.f_twins D.bt (v_pair_steps.mono (by decide)) (v_ranked.mono (by decide)) (v_places.mono (by decide)) (v_frame.mono (by decide)) (v_round_about.mono (by decide)) (v_word_of.mono (by decide))
  have v__law_counts := has_lcounts (P := P) (w := w) (base := base) D.f__law_counts D.bt (v__law_power.mono (by decide))
  have v__law_frame := has_lframe (P := P) (w := w) (base := base) D.f__law_frame D.bt (v__law_counts.mono (by decide)) (v__law_power.mono (by decide)) (v__law_word.mono (by decide))
  have v__law_whole := has_whole (P := P) (w := w) (base := base) D.f__law_whole D.bt
  have v__law_ranks := has_lranks (P := P) (w := w) (base := base) D.f__law_ranks D.bt (v__law_whole.mono (by decide))
  have v__law_steps := has_lsteps (P := P) (w := w) (base := base) D.f__law_steps D.bt (v__law_power.mono (by decide))
  have v__law_rises := has_rises (P := P) (w := w) (base := base) D.f__law_rises (v__law_ranks.mono (by decide)) (v__law_power.mono (by decide)) (v__law_steps.mono (by decide))
  have v__law_once := has_once (P := P) (w := w) (base := base) D.f__law_once D.bt
  have v__law_twins := has_ltwins (P := P) (w := w) (base := base) D.f__law_twins D.bt (v__law_whole.mono (by decide)) (v__law_once.mono (by decide))
  exact ok_law F D.bt (v__law_low.mono (by decide)) (v__law_cell_at.mono (by decide)) (v__law_any.mono (by decide)) (v__law_core.mono (by decide)) (v__law_spoiled.mono (by decide)) (v__law_stream.mono (by decide)) (v__law_wide.mono (by decide)) (v_one_to_one.mono (by decide)) (v_twins.mono (by decide)) (v__law_frame.mono (by decide)) (v__law_rises.mono (by decide)) (v_ranks.mono (by decide)) (v__law_twins.mono (by decide))
theorem funC_mk {K : PySem.W.Frag} {h : Heap} {mg : Str → Option Value} (X : K.In h) (G : h.Ns mainGlobals mg) {x : Str} {i : Nat} {ps : List Str} {f : Addr} {oc : Value} {od an : Option Addr} {osl : Array (Option Value)} {kV doc pm cdv ct : Value}
    (hb : ∀ (kV doc pm : Value) (an : Option Addr) (cdv ct : Value) (us : List Value), us.length = ps.length → bindArgs (PySem.W.fnOf x x (defArgs (top i)) (defBody (top i)) (defScope (top i)) .none kV doc pm an cdv ct) ⟨us, []⟩ = pure (ps.zip us))
    (a : PySem.W.nsIn K mainGlobals x = some (some (.ref f)))
    (l : K.lookup f = some ⟨oc, od, .func (PySem.W.fnOf x x (defArgs (top i)) (defBody (top i)) (defScope (top i)) .none kV doc pm an cdv ct), osl⟩)
    (c : PySem.W.codeIn K cdv x = true) (k : PySem.W.keepIn K (.ref f) = true) : FunC K mg x i ps :=
  ⟨f, _, fun_mk l c k, PySem.W.mg_of X G a, k, (fun_mk l c k).binds hb⟩
theorem funCode_mk {K : PySem.W.Frag} {h : Heap} {mg : Str → Option Value} (X : K.In h) (G : h.Ns mainGlobals mg) {x : Str} {i : Nat} {ps : List Str} {f cc : Addr} {oc : Value} {od an : Option Addr} {osl : Array (Option Value)} {kV doc pm ct : Value}
    (hb : ∀ (kV doc pm : Value) (an : Option Addr) (cdv ct : Value) (us : List Value), us.length = ps.length → bindArgs (PySem.W.fnOf x x (defArgs (top i)) (defBody (top i)) (defScope (top i)) .none kV doc pm an cdv ct) ⟨us, []⟩ = pure (ps.zip us))
    (a : PySem.W.nsIn K mainGlobals x = some (some (.ref f)))
    (l : K.lookup f = some ⟨oc, od, .func (PySem.W.fnOf x x (defArgs (top i)) (defBody (top i)) (defScope (top i)) .none kV doc pm an (.ref cc) ct), osl⟩)
    (c : PySem.W.codeIn K (.ref cc) x = true) (k : PySem.W.keepIn K (.ref f) = true) : FunCode K mg x i cc ps :=
  ⟨f, oc, od, kV, doc, pm, an, ct, osl, l, c, PySem.W.mg_of X G a, k, (fun_mk l c k).binds hb⟩
theorem gb_mk {mg : Str → Option Value} {v1 v2 : Value} (h1 : mg "MOST" = some v1) (e1 : ∃ t, v1 = .int 256 t) (h2 : mg "MOST_NODES" = some v2) (e2 : ∃ t, v2 = .int 9 t) : Gb mg := by
  obtain ⟨t, rfl⟩ := e1
  obtain ⟨u, rfl⟩ := e2
  exact ⟨⟨t, h1⟩, ⟨u, h2⟩⟩
/-- the law's promise at the head's heap -/
theorem law_at {l : PySem.W.OpenLaw} {w : World} {K : PySem.W.Frag} {mg : Str → Option Value} {h : Heap} {fa cc Pt f : Addr} {oc : Value} {od an : Option Addr} {osl : Array (Option Value)} {kV doc pm cdv ct : Value} (X : K.In h) (G : h.Ns mainGlobals mg) (hfa : mg "law" = some (.ref fa))
    (D : Defs K mg cc) (a : PySem.W.nsIn K mainGlobals "law" = some (some (.ref f)))
    (lk : K.lookup f = some ⟨oc, od, .func (PySem.W.fnOf "law" "law" (defArgs (top 63)) (defBody (top 63)) (defScope (top 63)) .none kV doc pm an cdv ct), osl⟩) (c : PySem.W.codeIn K cdv "law" = true) (k : PySem.W.keepIn K (.ref f) = true)
    (hP : h.get? Pt = some { cls := .none, data := .fields #[] }) (nP : K.lookup Pt = none) (C : PySem.W.CodeHd h cc Pt) : LawAtS l w K CX0 11 63 "_law_script" mg fa h := by
  have e := hfa.symm.trans (PySem.W.mg_of X G a)
  cases e
  refine ⟨PySem.W.fnOf "law" "law" (defArgs (top 63)) (defBody (top 63)) (defScope (top 63)) .none kV doc pm an cdv ct, [(cc, Pt)], sp_law K Pt, ?_, ?_, ?_, fun s v => .of_eq rfl, fun H b ns hl _ hT hS => ?_, fun base _ _ TB => law_all D (TB _ List.mem_cons_self) (fun_mk lk c k)⟩
  · intro p hp
    rw [List.mem_singleton.mp hp]
    exact hP
  · intro p hp
    rw [List.mem_singleton.mp hp]
    exact nP
  · intro p hp
    rw [List.mem_singleton.mp hp]
    exact C
  · refine ⟨b, ns, rfl, hS, by omega, fun p hp => ?_, fun H' => rfl⟩
    rw [List.mem_singleton.mp hp]
    exact TabS.nil (hT _ List.mem_cons_self)
theorem law_walk {l : PySem.W.OpenLaw} {q : Program} {loose : List Str} {XP : (Str → Option Value) → Heap → Prop} {YP : World → Heap → Prop} {d : DefRec} {K : Params → PySem.W.Frag} (hn : l.most = some 63) (hdf : d.params.defaults = [])
    (hY : ∀ (w : World) (h : Heap), YP w h → (K w.params).In h)
    (F : ∀ (w : World) (mg : Str → Option Value) (fa : Addr) (h : Heap), YP w h → (K w.params).In h → h.Ns mainGlobals mg → mg d.name = some (.ref fa) → LawAtS l w (K w.params) CX0 11 63 "_law_script" mg fa h) :
    PySem.W.WalkO q loose XP YP l.row.toRowW d [] (fun f vs => PySem.call f vs) :=
  walk_ofTs (n := 63) (k := 11) (x := "_law_script") (CX := fun _ => CX0) hn (by decide) hdf ⟨rfl, by decide, by decide⟩ hY F fun _ _ _ _ _ z => z
end K52
open PySem PySem.W PyProof.Rows in
set_option maxRecDepth 100000 in
set_option maxHeartbeats 0 in
theorem PySem.Challenge.cw_rowrules_k52_whole_one_to_one_or_twins_holds : PySem.Challenge.rw_rowrules_k52_whole_one_to_one_or_twins.Holds := by
  w_on; o_law; k_head; (case hw => w_witness2)
  k_fill
  refine K52.law_walk (l := PySem.Challenge.rw_rowrules_k52_whole_one_to_one_or_twins) rfl rfl (fun w h Y => PySem.W.km_in_of Y) ?F
  case F =>
    intro w mg fa h Y KX G hmg
    refine' K52.law_at (Pt := 314) KX G hmg ⟨?q_bt, ?q_gb, ?q__law_low, ?q__law_cell_at, ?q__law_power, ?q__law_stream, ?q__law_any, ?q__law_word, ?q__law_flip, ?q__law_tracks, ?q__law_marks, ?q__law_sums, ?q__law_three, ?q__law_steps_down, ?q__law_told, ?q__law_core, ?q__law_spoiled, ?q__law_seen, ?q__law_wide, ?q_nodes_of, ?q_exponent, ?q_places, ?q_counts_at, ?q_counting, ?q_power, ?q_value, ?q_sign_within, ?q_word_of, ?q_by_window, ?q_narrow, ?q_fits, ?q_widened, ?q_frame, ?q_nodes, ?q_pair_number, ?q_words_told, ?q_pair_steps, ?q_steps_counted, ?q_ranked, ?q_ranks, ?q_one_to_one, ?q_stepping_to, ?q_round_about, ?q_twins, ?q__law_counts, ?q__law_frame, ?q__law_whole, ?q__law_ranks, ?q__law_steps, ?q__law_rises, ?q__law_once, ?q__law_twins⟩ ?qa ?ql ?qc ?qk ?qP ?qN ?qC
    (case q__law_low => refine' K52.funC_mk KX G (fun _ _ _ _ _ _ us hl => match us, hl with | [_], _ => rfl) ?a ?l ?c ?k; (case a => k_is); (case l => k_is); (case c => k_is); (case k => k_is))
    (case q__law_cell_at => refine' K52.funC_mk KX G (fun _ _ _ _ _ _ us hl => match us, hl with | [_, _], _ => rfl) ?a ?l ?c ?k; (case a => k_is); (case l => k_is); (case c => k_is); (case k => k_is))
    (case q__law_power => refine' K52.funC_mk KX G (fun _ _ _ _ _ _ us hl => match us, hl with | [_, _], _ => rfl) ?a ?l ?c ?k; (case a => k_is); (case l => k_is); (case c => k_is); (case k => k_is))
    (case q__law_stream => refine' K52.funC_mk KX G (fun _ _ _ _ _ _ us hl => match us, hl with | [_, _], _ => rfl) ?a ?l ?c ?k; (case a => k_is); (case l => k_is); (case c => k_is); (case k => k_is))
    (case q__law_any => refine' K52.funC_mk KX G (fun _ _ _ _ _ _ us hl => match us, hl with | [_, _], _ => rfl) ?a ?l ?c ?k; (case a => k_is); (case l => k_is); (case c => k_is); (case k => k_is))
    (case q__law_word => refine' K52.funC_mk KX G (fun _ _ _ _ _ _ us hl => match us, hl with | [_, _, _], _ => rfl) ?a ?l ?c ?k; (case a => k_is); (case l => k_is); (case c => k_is); (case k => k_is))
    (case q__law_flip => refine' K52.funC_mk KX G (fun _ _ _ _ _ _ us hl => match us, hl with | [_, _], _ => rfl) ?a ?l ?c ?k; (case a => k_is); (case l => k_is); (case c => k_is); (case k => k_is))
    (case q__law_tracks => refine' K52.funC_mk KX G (fun _ _ _ _ _ _ us hl => match us, hl with | [_, _, _, _], _ => rfl) ?a ?l ?c ?k; (case a => k_is); (case l => k_is); (case c => k_is); (case k => k_is))
    (case q__law_marks => refine' K52.funC_mk KX G (fun _ _ _ _ _ _ us hl => match us, hl with | [_, _, _, _], _ => rfl) ?a ?l ?c ?k; (case a => k_is); (case l => k_is); (case c => k_is); (case k => k_is))
    (case q__law_sums => refine' K52.funC_mk KX G (fun _ _ _ _ _ _ us hl => match us, hl with | [_, _, _, _], _ => rfl) ?a ?l ?c ?k; (case a => k_is); (case l => k_is); (case c => k_is); (case k => k_is))
    (case q__law_three => refine' K52.funC_mk KX G (fun _ _ _ _ _ _ us hl => match us, hl with | [_, _], _ => rfl) ?a ?l ?c ?k; (case a => k_is); (case l => k_is); (case c => k_is); (case k => k_is))
    (case q__law_steps_down => refine' K52.funC_mk KX G (fun _ _ _ _ _ _ us hl => match us, hl with | [_, _, _], _ => rfl) ?a ?l ?c ?k; (case a => k_is); (case l => k_is); (case c => k_is); (case k => k_is))
    (case q__law_told => refine' K52.funC_mk KX G (fun _ _ _ _ _ _ us hl => match us, hl with | [_, _, _, _], _ => rfl) ?a ?l ?c ?k; (case a => k_is); (case l => k_is); (case c => k_is); (case k => k_is))
    (case q__law_core => refine' K52.funCode_mk KX G (fun _ _ _ _ _ _ us hl => match us, hl with | [_, _, _], _ => rfl) ?a ?l ?c ?k; (case a => k_is); (case l => k_is); (case c => k_is); (case k => k_is))
    (case q__law_spoiled => refine' K52.funC_mk KX G (fun _ _ _ _ _ _ us hl => match us, hl with | [_, _], _ => rfl) ?a ?l ?c ?k; (case a => k_is); (case l => k_is); (case c => k_is); (case k => k_is))
    (case q__law_seen => refine' K52.funC_mk KX G (fun _ _ _ _ _ _ us hl => match us, hl with | [_, _, _, _], _ => rfl) ?a ?l ?c ?k; (case a => k_is); (case l => k_is); (case c => k_is); (case k => k_is))
    (case q__law_wide => refine' K52.funC_mk KX G (fun _ _ _ _ _ _ us hl => match us, hl with | [_, _, _], _ => rfl) ?a ?l ?c ?k; (case a => k_is); (case l => k_is); (case c => k_is); (case k => k_is))
    (case q_nodes_of => refine' K52.funC_mk KX G (fun _ _ _ _ _ _ us hl => match us, hl with | [_], _ => rfl) ?a ?l ?c ?k; (case a => k_is); (case l => k_is); (case c => k_is); (case k => k_is))
    (case q_exponent => refine' K52.funC_mk KX G (fun _ _ _ _ _ _ us hl => match us, hl with | [_, _], _ => rfl) ?a ?l ?c ?k; (case a => k_is); (case l => k_is); (case c => k_is); (case k => k_is))
    (case q_places => refine' K52.funC_mk KX G (fun _ _ _ _ _ _ us hl => match us, hl with | [_], _ => rfl) ?a ?l ?c ?k; (case a => k_is); (case l => k_is); (case c => k_is); (case k => k_is))
    (case q_counts_at => refine' K52.funC_mk KX G (fun _ _ _ _ _ _ us hl => match us, hl with | [_, _, _], _ => rfl) ?a ?l ?c ?k; (case a => k_is); (case l => k_is); (case c => k_is); (case k => k_is))
    (case q_counting => refine' K52.funC_mk KX G (fun _ _ _ _ _ _ us hl => match us, hl with | [_], _ => rfl) ?a ?l ?c ?k; (case a => k_is); (case l => k_is); (case c => k_is); (case k => k_is))
    (case q_power => refine' K52.funC_mk KX G (fun _ _ _ _ _ _ us hl => match us, hl with | [_, _], _ => rfl) ?a ?l ?c ?k; (case a => k_is); (case l => k_is); (case c => k_is); (case k => k_is))
    (case q_value => refine' K52.funC_mk KX G (fun _ _ _ _ _ _ us hl => match us, hl with | [_, _], _ => rfl) ?a ?l ?c ?k; (case a => k_is); (case l => k_is); (case c => k_is); (case k => k_is))
    (case q_sign_within => refine' K52.funC_mk KX G (fun _ _ _ _ _ _ us hl => match us, hl with | [_, _, _], _ => rfl) ?a ?l ?c ?k; (case a => k_is); (case l => k_is); (case c => k_is); (case k => k_is))
    (case q_word_of => refine' K52.funC_mk KX G (fun _ _ _ _ _ _ us hl => match us, hl with | [_, _, _], _ => rfl) ?a ?l ?c ?k; (case a => k_is); (case l => k_is); (case c => k_is); (case k => k_is))
    (case q_by_window => refine' K52.funC_mk KX G (fun _ _ _ _ _ _ us hl => match us, hl with | [_, _, _], _ => rfl) ?a ?l ?c ?k; (case a => k_is); (case l => k_is); (case c => k_is); (case k => k_is))
    (case q_narrow => refine' K52.funC_mk KX G (fun _ _ _ _ _ _ us hl => match us, hl with | [_], _ => rfl) ?a ?l ?c ?k; (case a => k_is); (case l => k_is); (case c => k_is); (case k => k_is))
    (case q_fits => refine' K52.funC_mk KX G (fun _ _ _ _ _ _ us hl => match us, hl with | [_, _], _ => rfl) ?a ?l ?c ?k; (case a => k_is); (case l => k_is); (case c => k_is); (case k => k_is))
    (case q_widened => refine' K52.funC_mk KX G (fun _ _ _ _ _ _ us hl => match us, hl with | [_, _, _], _ => rfl) ?a ?l ?c ?k; (case a => k_is); (case l => k_is); (case c => k_is); (case k => k_is))
    (case q_frame => refine' K52.funC_mk KX G (fun _ _ _ _ _ _ us hl => match us, hl with | [_], _ => rfl) ?a ?l ?c ?k; (case a => k_is); (case l => k_is); (case c => k_is); (case k => k_is))
    (case q_nodes => refine' K52.funC_mk KX G (fun _ _ _ _ _ _ us hl => match us, hl with | [_], _ => rfl) ?a ?l ?c ?k; (case a => k_is); (case l => k_is); (case c => k_is); (case k => k_is))
    (case q_pair_number => refine' K52.funC_mk KX G (fun _ _ _ _ _ _ us hl => match us, hl with | [_, _, _], _ => rfl) ?a ?l ?c ?k; (case a => k_is); (case l => k_is); (case c => k_is); (case k => k_is))
    (case q_words_told => refine' K52.funC_mk KX G (fun _ _ _ _ _ _ us hl => match us, hl with | [_], _ => rfl) ?a ?l ?c ?k; (case a => k_is); (case l => k_is); (case c => k_is); (case k => k_is))
    (case q_pair_steps => refine' K52.funC_mk KX G (fun _ _ _ _ _ _ us hl => match us, hl with | [_], _ => rfl) ?a ?l ?c ?k; (case a => k_is); (case l => k_is); (case c => k_is); (case k => k_is))
    (case q_steps_counted => refine' K52.funC_mk KX G (fun _ _ _ _ _ _ us hl => match us, hl with | [_], _ => rfl) ?a ?l ?c ?k; (case a => k_is); (case l => k_is); (case c => k_is); (case k => k_is))
    (case q_ranked => refine' K52.funC_mk KX G (fun _ _ _ _ _ _ us hl => match us, hl with | [_], _ => rfl) ?a ?l ?c ?k; (case a => k_is); (case l => k_is); (case c => k_is); (case k => k_is))
    (case q_ranks => refine' K52.funC_mk KX G (fun _ _ _ _ _ _ us hl => match us, hl with | [_], _ => rfl) ?a ?l ?c ?k; (case a => k_is); (case l => k_is); (case c => k_is); (case k => k_is))
    (case q_one_to_one => refine' K52.funC_mk KX G (fun _ _ _ _ _ _ us hl => match us, hl with | [_], _ => rfl) ?a ?l ?c ?k; (case a => k_is); (case l => k_is); (case c => k_is); (case k => k_is))
    (case q_stepping_to => refine' K52.funC_mk KX G (fun _ _ _ _ _ _ us hl => match us, hl with | [_, _, _], _ => rfl) ?a ?l ?c ?k; (case a => k_is); (case l => k_is); (case c => k_is); (case k => k_is))
    (case q_round_about => refine' K52.funC_mk KX G (fun _ _ _ _ _ _ us hl => match us, hl with | [_, _], _ => rfl) ?a ?l ?c ?k; (case a => k_is); (case l => k_is); (case c => k_is); (case k => k_is))
    (case q_twins => refine' K52.funC_mk KX G (fun _ _ _ _ _ _ us hl => match us, hl with | [_], _ => rfl) ?a ?l ?c ?k; (case a => k_is); (case l => k_is); (case c => k_is); (case k => k_is))
    (case q__law_counts => refine' K52.funC_mk KX G (fun _ _ _ _ _ _ us hl => match us, hl with | [_, _, _], _ => rfl) ?a ?l ?c ?k; (case a => k_is); (case l => k_is); (case c => k_is); (case k => k_is))
    (case q__law_frame => refine' K52.funC_mk KX G (fun _ _ _ _ _ _ us hl => match us, hl with | [_, _], _ => rfl) ?a ?l ?c ?k; (case a => k_is); (case l => k_is); (case c => k_is); (case k => k_is))
    (case q__law_whole => refine' K52.funC_mk KX G (fun _ _ _ _ _ _ us hl => match us, hl with | [_], _ => rfl) ?a ?l ?c ?k; (case a => k_is); (case l => k_is); (case c => k_is); (case k => k_is))
    (case q__law_ranks => refine' K52.funC_mk KX G (fun _ _ _ _ _ _ us hl => match us, hl with | [_, _], _ => rfl) ?a ?l ?c ?k; (case a => k_is); (case l => k_is); (case c => k_is); (case k => k_is))
    (case q__law_steps => refine' K52.funC_mk KX G (fun _ _ _ _ _ _ us hl => match us, hl with | [_, _, _], _ => rfl) ?a ?l ?c ?k; (case a => k_is); (case l => k_is); (case c => k_is); (case k => k_is))
    (case q__law_rises => refine' K52.funC_mk KX G (fun _ _ _ _ _ _ us hl => match us, hl with | [_, _, _, _], _ => rfl) ?a ?l ?c ?k; (case a => k_is); (case l => k_is); (case c => k_is); (case k => k_is))
    (case q__law_once => refine' K52.funC_mk KX G (fun _ _ _ _ _ _ us hl => match us, hl with | [_, _, _], _ => rfl) ?a ?l ?c ?k; (case a => k_is); (case l => k_is); (case c => k_is); (case k => k_is))
    (case q__law_twins => refine' K52.funC_mk KX G (fun _ _ _ _ _ _ us hl => match us, hl with | [_, _, _], _ => rfl) ?a ?l ?c ?k; (case a => k_is); (case l => k_is); (case c => k_is); (case k => k_is))
    (case q_bt =>
      refine' ⟨PySem.W.mg_none_of KX G ?b0, PySem.W.mg_none_of KX G ?b1, PySem.W.mg_none_of KX G ?b2, PySem.W.mg_none_of KX G ?b3, PySem.W.mg_none_of KX G ?b4, PySem.W.mg_none_of KX G ?b5, PySem.W.mg_none_of KX G ?b6, PySem.W.mg_none_of KX G ?b7, PySem.W.mg_none_of KX G ?b8, PySem.W.mg_none_of KX G ?b9, PySem.W.mg_none_of KX G ?b10, PySem.W.mg_none_of KX G ?b11⟩
      (case b0 => k_is)
      (case b1 => k_is)
      (case b2 => k_is)
      (case b3 => k_is)
      (case b4 => k_is)
      (case b5 => k_is)
      (case b6 => k_is)
      (case b7 => k_is)
      (case b8 => k_is)
      (case b9 => k_is)
      (case b10 => k_is)
      (case b11 => k_is))
    (case q_gb =>
      refine' K52.gb_mk (PySem.W.mg_of KX G ?g1) ?e1 (PySem.W.mg_of KX G ?g2) ?e2
      (case g1 => k_is)
      (case g2 => k_is)
      (case e1 => exact ⟨_, rfl⟩)
      (case e2 => exact ⟨_, rfl⟩))
    (case qa => k_is)
    (case ql => k_is)
    (case qc => k_is)
    (case qk => k_is)
    (case qP => exact PySem.W.km_tabs_of Y 314 (by simp))
    (case qN => first | k_is | kernel_rfl)
    (case qC => exact PySem.W.codeHd_of_K KX (by kernel_rfl))
