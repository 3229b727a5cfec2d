import PyProof.Rows.All
import Wide.All
import OpenK.AllK
import Wide.FinOn
import HandS.ForMost
import HandS.Exc
import HandS.TryOnly
import HandS.ExcOwn
import HandS.WordsExc
import HandS.Conv
import HandS.Defaults
import HandS.IsInst
import HandS.TupAny
import HandS.TupLe
import HandS.TupLen
import HandS.Style
import HandS.Wide
import HandS.WideMore
import HandS.Walk
import HandS.TupSets
import HandS.SortInts
import KE.SortData
import KE.KDictKeyed
import KE.KIndexOf
import PySem.Challenge.RW_orderrows_k74_whole_rounds
import KE.KDictPairs
import KE.DatumOrd
import KE.DatumIndex
import HandS.SortKw
import KE.GoesMore
import HandS.WideBits
-- part: WRMath1
set_option linter.all false
/-! Mathematics 1: going round, windows, rows joined and parted. Plain Lean. -/
namespace WR

/-- the thing at a place of a row that goes round -/
def ext (a : List Int) (i : Nat) : Int := a.getD (i % a.length) 0
/-- the window of k from a place on -/
def win (a : List Int) (k p : Nat) : List Int := (List.range k).map fun j => ext a (p + j)
/-- all windows of k -/
def wins (a : List Int) (k : Nat) : List (List Int) := (List.range a.length).map (win a k)
/-- begun at a place -/
def rot (a : List Int) (p : Nat) : List Int := a.drop p ++ a.take p

theorem win_length (a : List Int) (k p : Nat) : (win a k p).length = k := by simp [win]
theorem wins_length (a : List Int) (k : Nat) : (wins a k).length = a.length := by simp [wins]
theorem wins_get {a : List Int} {k p : Nat} (h : p < a.length) : (wins a k)[p]? = some (win a k p) := by
  simp [wins, h]
theorem win_get {a : List Int} {k p j : Nat} (h : j < k) : (win a k p)[j]? = some (ext a (p + j)) := by
  simp [win, h]
theorem mem_wins {a w : List Int} {k : Nat} : w ∈ wins a k ↔ ∃ p, p < a.length ∧ win a k p = w := by
  simp [wins]
theorem win_ext {a b : List Int} {k p q : Nat} (h : ∀ j, j < k → ext a (p + j) = ext b (q + j)) : win a k p = win b k q := by
  unfold win
  exact List.map_congr_left fun j hj => h j (List.mem_range.mp hj)
theorem win_eq {a b : List Int} {k p q : Nat} (h : win a k p = win b k q) {j : Nat} (hj : j < k) : ext a (p + j) = ext b (q + j) := by
  have e := congrArg (fun l => l[j]?) h
  simpa [win_get hj] using e
theorem win_take (a : List Int) {k m p : Nat} (h : m ≤ k) : (win a k p).take m = win a m p := by
  unfold win
  rw [← List.map_take, List.take_range, Nat.min_eq_left h]
theorem rot_length (a : List Int) (p : Nat) : (rot a p).length = a.length := by
  simp only [rot, List.length_append, List.length_drop, List.length_take]
  omega
theorem rot_perm (a : List Int) (p : Nat) : (rot a p).Perm a := by
  unfold rot
  exact (List.perm_append_comm).trans (by rw [List.take_append_drop])
theorem rot_zero (a : List Int) : rot a 0 = a := by simp [rot]
theorem rot_ne {a : List Int} {p : Nat} (h : a ≠ []) : rot a p ≠ [] := fun e => h (by
  have := rot_length a p
  rw [e] at this
  exact List.eq_nil_of_length_eq_zero this.symm)
theorem ext_lt {a : List Int} {i : Nat} (h : i < a.length) : ext a i = a[i] := by
  unfold ext
  rw [Nat.mod_eq_of_lt h]
  simp [List.getD_eq_getElem?_getD, h]
theorem ext_wrap (a : List Int) (i : Nat) : ext a (a.length + i) = ext a i := by
  unfold ext
  rw [Nat.add_mod_left]
theorem ext_mod (a : List Int) (i : Nat) : ext a (i % a.length) = ext a i := by
  unfold ext
  rw [Nat.mod_mod]
theorem ext_mem {a : List Int} (h : a ≠ []) (i : Nat) : ext a i ∈ a := by
  have hl : 0 < a.length := List.length_pos_iff.mpr h
  rw [← ext_mod, ext_lt (Nat.mod_lt _ hl)]
  exact List.getElem_mem _
theorem ext_rot {a : List Int} {p : Nat} (h : p ≤ a.length) (i : Nat) : ext (rot a p) i = ext a (p + i) := by
  rcases Nat.eq_zero_or_pos a.length with h0 | hl
  · have e : a = [] := List.eq_nil_of_length_eq_zero h0
    subst e
    simp [ext, rot]
  · have key : ∀ j, j < a.length → ext (rot a p) j = ext a (p + j) := by
      intro j hj
      rw [ext_lt (by rw [rot_length]; exact hj)]
      unfold rot
      by_cases hjp : j < a.length - p
      · rw [List.getElem_append_left (by rw [List.length_drop]; exact hjp), List.getElem_drop, ext_lt (by omega)]
      · rw [List.getElem_append_right (by rw [List.length_drop]; omega), List.getElem_take]
        have e : p + j = a.length + (p + j - a.length) := by omega
        rw [e, ext_wrap, ext_lt (by omega)]
        congr 1
        rw [List.length_drop]
        omega
    rw [← ext_mod, rot_length, key _ (Nat.mod_lt _ hl), ← ext_mod a (p + i % a.length), ← ext_mod a (p + i)]
    congr 1
    simp [Nat.add_mod]
theorem ext_append_left {a b : List Int} {i : Nat} (h : i < a.length) : ext (a ++ b) i = ext a i := by
  rw [ext_lt (by rw [List.length_append]; omega), ext_lt h, List.getElem_append_left h]
theorem ext_append_right (a b : List Int) (i : Nat) : ext (a ++ b) (a.length + i) = ext (b ++ a) i := by
  have e : b ++ a = rot (a ++ b) a.length := by simp [rot]
  rw [e, ext_rot (by rw [List.length_append]; omega)]
theorem win_rot {a : List Int} {p : Nat} (h : p ≤ a.length) (k q : Nat) : win (rot a p) k q = win a k (p + q) := by
  refine win_ext fun j _ => ?_
  rw [ext_rot h, Nat.add_assoc]
theorem win_wrap (a : List Int) (k p : Nat) : win a k (a.length + p) = win a k p := by
  refine win_ext fun j _ => ?_
  rw [Nat.add_assoc, ext_wrap]
theorem win_mod (a : List Int) (k p : Nat) : win a k (p % a.length) = win a k p := by
  refine win_ext fun j _ => ?_
  rw [← ext_mod, ← ext_mod a (p + j)]
  congr 1
  simp [Nat.add_mod]
theorem wins_rot {a : List Int} {p : Nat} (h : p ≤ a.length) (k : Nat) : wins (rot a p) k = (wins a k).drop p ++ (wins a k).take p := by
  apply List.ext_getElem?
  intro i
  by_cases hi : i < a.length
  · rw [wins_get (by rw [rot_length]; exact hi), win_rot h]
    by_cases hip : i < a.length - p
    · rw [List.getElem?_append_left (by rw [List.length_drop, wins_length]; exact hip), List.getElem?_drop, wins_get (by omega)]
    · rw [List.getElem?_append_right (by rw [List.length_drop, wins_length]; omega), List.length_drop, wins_length, List.getElem?_take_of_lt (by omega), wins_get (by omega)]
      have e : p + i = a.length + (i - (a.length - p)) := by omega
      rw [e, win_wrap]
  · rw [List.getElem?_eq_none (by rw [wins_length, rot_length]; omega), List.getElem?_eq_none]
    rw [List.length_append, List.length_drop, List.length_take, wins_length]
    omega
theorem wins_rot_perm {a : List Int} {p : Nat} (h : p ≤ a.length) (k : Nat) : (wins (rot a p) k).Perm (wins a k) := by
  rw [wins_rot h]
  exact (List.perm_append_comm).trans (by rw [List.take_append_drop])

/-! ### two rows joined -/
theorem agree_join {a b : List Int} (ha : a ≠ []) (hb : b ≠ []) {m : Nat} (h : ∀ i, i < m → ext a i = ext b i) :
    ∀ i, i < m → ext (a ++ b) i = ext a i ∧ ext (b ++ a) i = ext b i := by
  have la : 0 < a.length := List.length_pos_iff.mpr ha
  have lb : 0 < b.length := List.length_pos_iff.mpr hb
  intro i
  induction i using Nat.strongRecOn with
  | ind i ih =>
    intro hi
    constructor
    · by_cases c : i < a.length
      · exact ext_append_left c
      · have e : i = a.length + (i - a.length) := by omega
        have q := (ih (i - a.length) (by omega) (by omega)).2
        rw [e, ext_append_right, ext_wrap, q, h _ (by omega)]
    · by_cases c : i < b.length
      · exact ext_append_left c
      · have e : i = b.length + (i - b.length) := by omega
        have q := (ih (i - b.length) (by omega) (by omega)).1
        rw [e, ext_append_right, ext_wrap, q, h _ (by omega)]
theorem win_head_of {a b : List Int} {k p : Nat} (hp : p < a.length) (h : ∀ i, i < k - 1 → ext (b ++ a) i = ext a i) : win (a ++ b) k p = win a k p := by
  refine win_ext fun j hj => ?_
  by_cases c : p + j < a.length
  · exact ext_append_left c
  · have e : p + j = a.length + (p + j - a.length) := by omega
    rw [e, ext_append_right, ext_wrap, h _ (by omega)]
theorem wins_append {a b : List Int} {k : Nat} (h1 : ∀ i, i < k - 1 → ext (b ++ a) i = ext a i) (h2 : ∀ i, i < k - 1 → ext (a ++ b) i = ext b i) :
    wins (a ++ b) k = wins a k ++ wins b k := by
  unfold wins
  rw [List.length_append, List.range_add, List.map_append, List.map_map]
  congr 1
  · exact List.map_congr_left fun p hp => win_head_of (List.mem_range.mp hp) h1
  · refine List.map_congr_left fun q hq => ?_
    have hq' := List.mem_range.mp hq
    have e : win (a ++ b) k (a.length + q) = win (b ++ a) k q := win_ext fun j _ => by
      rw [Nat.add_assoc, ext_append_right]
    show win (a ++ b) k (a.length + q) = win b k q
    rw [e]
    exact win_head_of hq' h2
/-- two rows that begin with the same k - 1 things: all windows of both, each as often -/
theorem wins_join {a b : List Int} {k : Nat} (ha : a ≠ []) (hb : b ≠ []) (h : win a (k - 1) 0 = win b (k - 1) 0) : wins (a ++ b) k = wins a k ++ wins b k := by
  have h' : ∀ i, i < k - 1 → ext a i = ext b i := fun i hi => by simpa using win_eq h hi
  exact wins_append (fun i hi => by rw [(agree_join ha hb h' i hi).2, h' i hi]) fun i hi => by rw [(agree_join ha hb h' i hi).1, h' i hi]
theorem wins_joined {a b : List Int} {k i j : Nat} (hi : i < a.length) (hj : j < b.length) (h : win a (k - 1) i = win b (k - 1) j) :
    (wins (rot a i ++ rot b j) k).Perm (wins a k ++ wins b k) := by
  have ha : a ≠ [] := fun e => by subst e; exact absurd hi (Nat.not_lt_zero _)
  have hb : b ≠ [] := fun e => by subst e; exact absurd hj (Nat.not_lt_zero _)
  rw [wins_join (rot_ne ha) (rot_ne hb) (by rw [win_rot (by omega), win_rot (by omega)]; simpa using h)]
  exact (wins_rot_perm (by omega) k).append (wins_rot_perm (by omega) k)

/-! ### a row parted -/
theorem agree_part {a b : List Int} (ha : a ≠ []) (hb : b ≠ []) {m : Nat} (h : ∀ i, i < m → ext (a ++ b) i = ext (b ++ a) i) :
    ∀ i, i < m → ext a i = ext (a ++ b) i ∧ ext b i = ext (a ++ b) i := by
  have la : 0 < a.length := List.length_pos_iff.mpr ha
  have lb : 0 < b.length := List.length_pos_iff.mpr hb
  intro i
  induction i using Nat.strongRecOn with
  | ind i ih =>
    intro hi
    constructor
    · by_cases c : i < a.length
      · exact (ext_append_left c).symm
      · have e : i = a.length + (i - a.length) := by omega
        have q := (ih (i - a.length) (by omega) (by omega)).1
        rw [e, ext_append_right, ext_wrap, q, h _ (by omega)]
    · by_cases c : i < b.length
      · rw [h i hi, ext_append_left c]
      · have e : i = b.length + (i - b.length) := by omega
        have q := (ih (i - b.length) (by omega) (by omega)).2
        rw [h i hi, e, ext_append_right, ext_wrap, q]
theorem wins_part {a b : List Int} {k : Nat} (ha : a ≠ []) (hb : b ≠ []) (h : win (a ++ b) (k - 1) 0 = win (a ++ b) (k - 1) a.length) : wins (a ++ b) k = wins a k ++ wins b k := by
  have h' : ∀ i, i < k - 1 → ext (a ++ b) i = ext (b ++ a) i := fun i hi => by
    have := win_eq h hi
    rw [ext_append_right, Nat.zero_add] at this
    exact this
  exact wins_append (fun i hi => by rw [← h' i hi, (agree_part ha hb h' i hi).1]) fun i hi => by rw [(agree_part ha hb h' i hi).2]
theorem part_inner {r : List Int} {p q : Nat} (hpq : p < q) (hq : q < r.length) : rot r p = (r.drop p).take (q - p) ++ (r.drop q ++ r.take p) := by
  unfold rot
  rw [← List.append_assoc]
  congr 1
  have e : r.drop q = (r.drop p).drop (q - p) := by
    rw [List.drop_drop]
    congr 1
    omega
  rw [e, List.take_append_drop]
theorem wins_parted {r : List Int} {k p q : Nat} (hpq : p < q) (hq : q < r.length) (h : win r (k - 1) p = win r (k - 1) q) :
    (wins ((r.drop p).take (q - p)) k ++ wins (r.drop q ++ r.take p) k).Perm (wins r k) := by
  have e := part_inner hpq hq
  have li : ((r.drop p).take (q - p)).length = q - p := by
    rw [List.length_take, List.length_drop]
    omega
  have ha : (r.drop p).take (q - p) ≠ [] := fun z => by rw [z] at li; simp at li; omega
  have hb : r.drop q ++ r.take p ≠ [] := fun z => by
    have l2 := congrArg List.length z
    rw [List.length_append, List.length_drop] at l2
    simp only [List.length_nil] at l2
    omega
  rw [← wins_part ha hb, ← e]
  · exact wins_rot_perm (by omega) k
  · rw [← e, li, win_rot (by omega), win_rot (by omega)]
    have : p + (q - p) = q := by omega
    simpa [this] using h

/-! ### opened -/
/-- plain windows of k -/
def pwins (a : List Int) (k : Nat) : List (List Int) := (List.range (a.length + 1 - k)).map fun p => (a.drop p).take k
theorem pwins_opened {r : List Int} {k p : Nat} (hk : 1 ≤ k) (hp : p < r.length) : (pwins (win r (r.length + k - 1) p) k).Perm (wins r k) := by
  have e : pwins (win r (r.length + k - 1) p) k = wins (rot r p) k := by
    unfold pwins wins
    rw [win_length, rot_length, show r.length + k - 1 + 1 - k = r.length by omega]
    refine List.map_congr_left fun q hq => ?_
    have hq' := List.mem_range.mp hq
    apply List.ext_getElem?
    intro j
    by_cases hj : j < k
    · rw [List.getElem?_take_of_lt hj, List.getElem?_drop, win_get (by omega), win_get hj, ext_rot (by omega)]
    · rw [List.getElem?_eq_none (by rw [List.length_take]; omega), List.getElem?_eq_none (by rw [win_length]; omega)]
  rw [e]
  exact wins_rot_perm (by omega) k
theorem win_inner {r : List Int} {k p : Nat} (h : p + k ≤ r.length) : win r k p = (r.drop p).take k := by
  apply List.ext_getElem?
  intro j
  by_cases hj : j < k
  · rw [win_get hj, List.getElem?_take_of_lt hj, List.getElem?_drop, ext_lt (by omega), List.getElem?_eq_getElem]
  · rw [List.getElem?_eq_none (by rw [win_length]; omega), List.getElem?_eq_none (by rw [List.length_take]; omega)]
end WR

-- part: WRMath2
set_option linter.all false
/-! Mathematics 2: choices, their numbers, loops. Plain Lean. -/
namespace WR

structure IsCh (n k : Nat) (c : List Int) : Prop where
  len : c.length = k
  nd : c.Nodup
  bd : ∀ x ∈ c, 0 ≤ x ∧ x < (n : Int)
/-- 0 .. n - 1 -/
def upto (n : Nat) : List Int := (List.range n).map fun i : Nat => ((i : Nat) : Int)
theorem upto_length (n : Nat) : (upto n).length = n := by simp [upto]
theorem mem_upto {n : Nat} {x : Int} : x ∈ upto n ↔ 0 ≤ x ∧ x < (n : Int) := by
  unfold upto
  rw [List.mem_map]
  constructor
  · rintro ⟨i, hi, rfl⟩
    have := List.mem_range.mp hi
    omega
  · rintro ⟨h1, h2⟩
    exact ⟨x.toNat, List.mem_range.mpr (by omega), by omega⟩
theorem nodup_mapI {α β : Type} {f : α → β} {l : List α} (inj : ∀ x ∈ l, ∀ y ∈ l, f x = f y → x = y) (h : l.Nodup) : (l.map f).Nodup := by
  induction l with
  | nil => exact List.nodup_nil
  | cons a l ih =>
    rw [List.map_cons, List.nodup_cons]
    rw [List.nodup_cons] at h
    refine ⟨fun hm => ?_, ih (fun x hx y hy => inj x (List.mem_cons_of_mem _ hx) y (List.mem_cons_of_mem _ hy)) h.2⟩
    obtain ⟨b, hb, e⟩ := List.mem_map.mp hm
    have := inj b (List.mem_cons_of_mem _ hb) a List.mem_cons_self e
    exact h.1 (this ▸ hb)
theorem upto_nodup (n : Nat) : (upto n).Nodup := nodup_mapI (fun x _ y _ e => by omega) List.nodup_range
theorem upto_get {n i : Nat} (h : i < n) : (upto n)[i]? = some (i : Int) := by simp [upto, h]

/-- how many choices -/
def cnt (n : Nat) : Nat → Nat
  | 0 => 1
  | k + 1 => cnt n k * (n - k)
theorem cnt_succ : ∀ (n k : Nat), cnt (n + 1) (k + 1) = (n + 1) * cnt n k
  | n, 0 => by simp [cnt]
  | n, k + 1 => by
    rw [cnt, cnt_succ n k, cnt, Nat.mul_assoc]
    congr 2
    omega
theorem cnt_pos : ∀ {n k : Nat}, k ≤ n → 0 < cnt n k
  | n, 0, _ => Nat.one_pos
  | n, k + 1, h => Nat.mul_pos (cnt_pos (by omega)) (by omega)
theorem cnt_full (n : Nat) (h : 1 ≤ n) : cnt n n = cnt n (n - 1) := by
  obtain ⟨m, rfl⟩ : ∃ m, n = m + 1 := ⟨n - 1, by omega⟩
  show cnt (m + 1) m * (m + 1 - m) = cnt (m + 1) (m + 1 - 1)
  rw [show m + 1 - m = 1 by omega, Nat.mul_one, Nat.add_sub_cancel]
theorem le_cnt {n k : Nat} (hk : 1 ≤ k) (h : k ≤ n) : n ≤ cnt n k := by
  obtain ⟨m, rfl⟩ : ∃ m, n = m + 1 := ⟨n - 1, by omega⟩
  obtain ⟨j, rfl⟩ : ∃ j, k = j + 1 := ⟨k - 1, by omega⟩
  rw [cnt_succ]
  exact Nat.le_mul_of_pos_right _ (cnt_pos (by omega))
theorem cnt_dvd : ∀ {n k : Nat}, 1 ≤ k → k ≤ n → cnt n k / k ≤ cnt n k := fun _ _ => Nat.div_le_self _ _
theorem fact_gt {n : Nat} (h : 3 ≤ n) : n < cnt n n := by
  obtain ⟨m, rfl⟩ : ∃ m, n = m + 1 := ⟨n - 1, by omega⟩
  rw [cnt_succ]
  have h1 := le_cnt (n := m) (k := m) (by omega) (Nat.le_refl _)
  have h2 : (m + 1) * 2 ≤ (m + 1) * cnt m m := Nat.mul_le_mul_left _ (by omega)
  omega

/-- the choice of a number, of the things left -/
def chAt : List Int → Nat → Nat → List Int
  | _, 0, _ => []
  | left, k + 1, num => left.getD (num / cnt (left.length - 1) k) 0 :: chAt (left.eraseIdx (num / cnt (left.length - 1) k)) k (num % cnt (left.length - 1) k)
theorem div_lt_of {l k num : Nat} (hl : 1 ≤ l) (hk : k ≤ l - 1) (h : num < cnt l (k + 1)) : num / cnt (l - 1) k < l := by
  obtain ⟨m, rfl⟩ : ∃ m, l = m + 1 := ⟨l - 1, by omega⟩
  rw [cnt_succ] at h
  rw [Nat.add_sub_cancel]
  exact Nat.div_lt_of_lt_mul (by rw [Nat.mul_comm]; exact h)
theorem erase_len {α : Type} {l : List α} {i : Nat} (h : i < l.length) : (l.eraseIdx i).length = l.length - 1 := List.length_eraseIdx_of_lt h
theorem erase_sub {α : Type} {l : List α} {i : Nat} {x : α} (h : x ∈ l.eraseIdx i) : x ∈ l := List.mem_of_mem_eraseIdx h
theorem erase_nd {α : Type} {l : List α} {i : Nat} (h : l.Nodup) : (l.eraseIdx i).Nodup := List.Nodup.sublist (List.eraseIdx_sublist ..) h
theorem erase_mem_iff {l : List Int} (hn : l.Nodup) {i : Nat} (hi : i < l.length) {x : Int} : x ∈ l.eraseIdx i ↔ x ∈ l ∧ x ≠ l[i] := by
  rw [List.mem_eraseIdx_iff_getElem]
  constructor
  · rintro ⟨j, hj, hji, e⟩
    refine ⟨by rw [← e]; exact List.getElem_mem _, fun q => hji ?_⟩
    exact (List.getElem_inj hn).mp (e.trans q)
  · rintro ⟨hx, ne⟩
    obtain ⟨j, hj, e⟩ := List.getElem_of_mem hx
    exact ⟨j, hj, fun q => ne (by subst q; exact e.symm), e⟩
theorem chAt_ok : ∀ (k : Nat) (left : List Int) (num : Nat), left.Nodup → k ≤ left.length → num < cnt left.length k →
    (chAt left k num).length = k ∧ (chAt left k num).Nodup ∧ ∀ x ∈ chAt left k num, x ∈ left
  | 0, left, num, _, _, _ => ⟨rfl, List.nodup_nil, fun x h => by cases h⟩
  | k + 1, left, num, hn, hk, h => by
    have hq := div_lt_of (by omega) (by omega) h
    have hr : num % cnt (left.length - 1) k < cnt (left.length - 1) k := Nat.mod_lt _ (cnt_pos (by omega))
    have ih := chAt_ok k (left.eraseIdx (num / cnt (left.length - 1) k)) (num % cnt (left.length - 1) k) (erase_nd hn) (by rw [erase_len hq]; omega) (by rw [erase_len hq]; exact hr)
    obtain ⟨h1, h2, h3⟩ := ih
    have e : left.getD (num / cnt (left.length - 1) k) 0 = left[num / cnt (left.length - 1) k] := by simp [List.getD_eq_getElem?_getD, hq]
    refine ⟨by simp [chAt, h1], ?_, fun x hx => ?_⟩
    · rw [chAt, List.nodup_cons]
      refine ⟨fun hm => ?_, h2⟩
      have := (erase_mem_iff hn hq).mp (h3 _ hm)
      exact this.2 e
    · rw [chAt] at hx
      rcases List.mem_cons.mp hx with rfl | hx
      · rw [e]; exact List.getElem_mem _
      · exact erase_sub (h3 x hx)
theorem chAt_inj : ∀ (k : Nat) (left : List Int) (a b : Nat), left.Nodup → k ≤ left.length → a < cnt left.length k → b < cnt left.length k → chAt left k a = chAt left k b → a = b
  | 0, left, a, b, _, _, ha, hb, _ => by
    have ha' : a < 1 := ha
    have hb' : b < 1 := hb
    omega
  | k + 1, left, a, b, hn, hk, ha, hb, e => by
    have qa := div_lt_of (by omega) (by omega) ha
    have qb := div_lt_of (by omega) (by omega) hb
    have pos := cnt_pos (n := left.length - 1) (k := k) (by omega)
    rw [chAt, chAt] at e
    injection e with e1 e2
    have ed : a / cnt (left.length - 1) k = b / cnt (left.length - 1) k := by
      have e1' : left[a / cnt (left.length - 1) k] = left[b / cnt (left.length - 1) k] := by
        simpa [List.getD_eq_getElem?_getD, qa, qb] using e1
      exact (List.getElem_inj hn).mp e1'
    rw [← ed] at e2
    have em := chAt_inj k _ _ _ (erase_nd hn) (by rw [erase_len qa]; omega) (by rw [erase_len qa]; exact Nat.mod_lt _ pos) (by rw [erase_len qa]; exact Nat.mod_lt _ pos) e2
    rw [← Nat.div_add_mod a (cnt (left.length - 1) k), ← Nat.div_add_mod b (cnt (left.length - 1) k), ed, em]
theorem chAt_surj : ∀ (c left : List Int), left.Nodup → c.Nodup → (∀ x ∈ c, x ∈ left) → ∃ num, num < cnt left.length c.length ∧ chAt left c.length num = c
  | [], left, _, _, _ => ⟨0, Nat.one_pos, rfl⟩
  | x :: c, left, hn, hc, hs => by
    rw [List.nodup_cons] at hc
    obtain ⟨i, hi, e⟩ := List.getElem_of_mem (hs x List.mem_cons_self)
    have hlen : c.length + 1 ≤ left.length := (List.nodup_cons.mpr hc).length_le_of_subset fun y hy => hs y hy
    obtain ⟨num, h1, h2⟩ := chAt_surj c (left.eraseIdx i) (erase_nd hn) hc.2 fun y hy => (erase_mem_iff hn hi).mpr ⟨hs y (List.mem_cons_of_mem _ hy), fun q => hc.1 (by rw [q, e] at hy; exact hy)⟩
    rw [erase_len hi] at h1
    have pos := cnt_pos (n := left.length - 1) (k := c.length) (by omega)
    refine ⟨i * cnt (left.length - 1) c.length + num, ?_, ?_⟩
    · show _ < cnt left.length (c.length + 1)
      obtain ⟨m, hm⟩ : ∃ m, left.length = m + 1 := ⟨left.length - 1, by omega⟩
      rw [hm] at h1
      rw [hm, cnt_succ]
      rw [Nat.add_sub_cancel] at h1 ⊢
      have : (i + 1) * cnt m c.length ≤ (m + 1) * cnt m c.length := Nat.mul_le_mul_right _ (by omega)
      rw [Nat.succ_mul] at this
      omega
    · show chAt left (c.length + 1) _ = _
      have ed : (i * cnt (left.length - 1) c.length + num) / cnt (left.length - 1) c.length = i := by
        rw [Nat.mul_comm, Nat.mul_add_div pos, Nat.div_eq_of_lt h1, Nat.add_zero]
      have em : (i * cnt (left.length - 1) c.length + num) % cnt (left.length - 1) c.length = num := by
        rw [Nat.mul_comm, Nat.mul_add_mod, Nat.mod_eq_of_lt h1]
      rw [chAt, ed, em, h2]
      congr 1
      simp [List.getD_eq_getElem?_getD, hi, e]

/-- all choices of k of n, by their numbers -/
def allCh (n k : Nat) : List (List Int) := (List.range (cnt n k)).map (chAt (upto n) k)
theorem allCh_length (n k : Nat) : (allCh n k).length = cnt n k := by simp [allCh]
theorem mem_allCh {n k : Nat} (h : k ≤ n) {c : List Int} : c ∈ allCh n k ↔ IsCh n k c := by
  unfold allCh
  rw [List.mem_map]
  constructor
  · rintro ⟨num, hm, rfl⟩
    have hm := List.mem_range.mp hm
    obtain ⟨h1, h2, h3⟩ := chAt_ok k (upto n) num (upto_nodup n) (by rw [upto_length]; exact h) (by rw [upto_length]; exact hm)
    exact ⟨h1, h2, fun x hx => mem_upto.mp (h3 x hx)⟩
  · intro hc
    obtain ⟨num, h1, h2⟩ := chAt_surj c (upto n) (upto_nodup n) hc.nd fun x hx => mem_upto.mpr (hc.bd x hx)
    rw [upto_length, hc.len] at h1
    rw [hc.len] at h2
    exact ⟨num, List.mem_range.mpr h1, h2⟩
theorem allCh_nodup {n k : Nat} (h : k ≤ n) : (allCh n k).Nodup := nodup_mapI (fun a ha b hb e =>
  chAt_inj k (upto n) a b (upto_nodup n) (by rw [upto_length]; exact h) (by rw [upto_length]; exact List.mem_range.mp ha) (by rw [upto_length]; exact List.mem_range.mp hb) e) List.nodup_range

/-! ### turns of a choice -/
theorem rot_get {c : List Int} {p j : Nat} (hp : p ≤ c.length) (hj : j < c.length) : (rot c p)[j]? = some (ext c (p + j)) := by
  rw [← ext_rot hp, ext_lt (by rw [rot_length]; exact hj), List.getElem?_eq_getElem]
theorem win_is_rot {c : List Int} {p : Nat} (hp : p ≤ c.length) : win c c.length p = rot c p := by
  apply List.ext_getElem?
  intro j
  by_cases hj : j < c.length
  · rw [win_get hj, rot_get hp hj]
  · rw [List.getElem?_eq_none (by rw [win_length]; omega), List.getElem?_eq_none (by rw [rot_length]; omega)]
theorem rot_rot {c : List Int} {p q : Nat} (hp : p ≤ c.length) (hq : q ≤ c.length) : rot (rot c p) q = rot c ((p + q) % c.length) := by
  rcases Nat.eq_zero_or_pos c.length with h0 | hl
  · have e : c = [] := List.eq_nil_of_length_eq_zero h0
    subst e
    simp [rot]
  · have hm := Nat.mod_lt (p + q) hl
    rw [← win_is_rot (by rw [rot_length]; exact hq), ← win_is_rot (Nat.le_of_lt hm), rot_length, win_rot hp, win_mod]
theorem rot_full (c : List Int) : rot c c.length = c := by simp [rot]
theorem IsCh.rot {n k : Nat} {c : List Int} (h : IsCh n k c) (p : Nat) : IsCh n k (rot c p) :=
  ⟨by rw [rot_length]; exact h.len, (rot_perm c p).nodup_iff.mpr h.nd, fun x hx => h.bd x ((rot_perm c p).mem_iff.mp hx)⟩
/-- a loop: none of its things is less than the first -/
def isLoop (c : List Int) : Bool := c.all fun x => decide (c.getD 0 0 ≤ x)
/-- the loops of k of n -/
def lps (n k : Nat) : List (List Int) := (allCh n k).filter isLoop
theorem mem_lps {n k : Nat} (h : k ≤ n) {c : List Int} : c ∈ lps n k ↔ IsCh n k c ∧ isLoop c = true := by
  unfold lps
  rw [List.mem_filter, mem_allCh h]
theorem loop_iff {c : List Int} : isLoop c = true ↔ ∀ x ∈ c, c.getD 0 0 ≤ x := by simp [isLoop]
theorem exists_least : ∀ (c : List Int), c ≠ [] → ∃ i, i < c.length ∧ ∀ x ∈ c, c.getD i 0 ≤ x
  | [], h => absurd rfl h
  | [a], _ => ⟨0, by simp, fun x hx => by simp at hx; subst hx; simp⟩
  | a :: b :: c, _ => by
    obtain ⟨i, hi, h⟩ := exists_least (b :: c) (by simp)
    by_cases q : a ≤ (b :: c).getD i 0
    · refine ⟨0, by simp, fun x hx => ?_⟩
      rcases List.mem_cons.mp hx with rfl | hx
      · simp
      · have := h x hx
        simp only [List.getD_cons_zero]
        omega
    · refine ⟨i + 1, by simpa using hi, fun x hx => ?_⟩
      simp only [List.getD_cons_succ]
      rcases List.mem_cons.mp hx with rfl | hx
      · omega
      · exact h x hx
/-- each choice is a turn of a loop -/
theorem to_loop {n k : Nat} (hk : 1 ≤ k) {d : List Int} (hd : IsCh n k d) : ∃ c p, IsCh n k c ∧ isLoop c = true ∧ p < k ∧ rot c p = d := by
  have ne : d ≠ [] := fun e => by have := hd.len; rw [e] at this; simp at this; omega
  have hl := hd.len
  obtain ⟨i, hi, h⟩ := exists_least d ne
  refine ⟨rot d i, (k - i) % k, hd.rot i, ?_, Nat.mod_lt _ (by omega), ?_⟩
  · rw [loop_iff]
    intro x hx
    have e : (rot d i).getD 0 0 = d.getD i 0 := by
      rw [List.getD_eq_getElem?_getD, rot_get (by omega) (by omega), Nat.add_zero, ext_lt hi]
      simp [List.getD_eq_getElem?_getD, hi]
    rw [e]
    exact h x ((rot_perm d i).mem_iff.mp hx)
  · have hm : (k - i) % k < k := Nat.mod_lt _ (by omega)
    rw [rot_rot (by omega) (by omega), hl]
    have e : (i + (k - i) % k) % k = 0 := by
      rw [Nat.add_mod_mod, show i + (k - i) = k by omega, Nat.mod_self]
    rw [e, rot_zero]
/-- a turn tells the loop and how far -/
theorem loop_once {n k : Nat} (hk : 1 ≤ k) {c c' : List Int} {p p' : Nat} (hc : IsCh n k c) (hc' : IsCh n k c') (l : isLoop c = true) (l' : isLoop c' = true) (hp : p < k) (hp' : p' < k) (e : rot c p = rot c' p') : c = c' ∧ p = p' := by
  have len := hc.len
  have len' := hc'.len
  have perm : c.Perm c' := ((rot_perm c p).symm.trans (e ▸ List.Perm.refl _)).trans (rot_perm c' p')
  have hx : c.getD 0 0 = c'.getD 0 0 := by
    have m : c.getD 0 0 ∈ c := by
      rw [List.getD_eq_getElem?_getD, List.getElem?_eq_getElem (by omega)]
      exact List.getElem_mem _
    have m' : c'.getD 0 0 ∈ c' := by
      rw [List.getD_eq_getElem?_getD, List.getElem?_eq_getElem (by omega)]
      exact List.getElem_mem _
    have h1 := loop_iff.mp l _ (perm.mem_iff.mpr m')
    have h2 := loop_iff.mp l' _ (perm.mem_iff.mp m)
    omega
  -- where the least thing stands in the turn
  have at1 : (rot c p)[(k - p) % k]? = some (c.getD 0 0) := by
    have hm : (k - p) % k < k := Nat.mod_lt _ (by omega)
    rw [rot_get (by omega) (by omega), ← ext_mod, len, Nat.add_mod_mod, show p + (k - p) = k by omega, Nat.mod_self, ext_lt (by omega)]
    simp [List.getD_eq_getElem?_getD, show 0 < c.length by omega]
  have at2 : (rot c p)[(k - p') % k]? = some (c.getD 0 0) := by
    have hm : (k - p') % k < k := Nat.mod_lt _ (by omega)
    rw [e, hx, rot_get (by omega) (by omega), ← ext_mod, len', Nat.add_mod_mod, show p' + (k - p') = k by omega, Nat.mod_self, ext_lt (by omega)]
    simp [List.getD_eq_getElem?_getD, show 0 < c'.length by omega]
  have nd := (hc.rot p).nd
  obtain ⟨u1, v1⟩ := List.getElem?_eq_some_iff.mp at1
  obtain ⟨u2, v2⟩ := List.getElem?_eq_some_iff.mp at2
  have em : (k - p) % k = (k - p') % k := (List.getElem_inj nd).mp (v1.trans v2.symm)
  have ep : p = p' := by
    have f : ∀ q, q < k → (k - q) % k = if q = 0 then 0 else k - q := fun q hq => by
      by_cases z : q = 0
      · subst z; simp
      · rw [if_neg z, Nat.mod_eq_of_lt (by omega)]
    rw [f p hp, f p' hp'] at em
    split at em <;> split at em <;> omega
  subst ep
  refine ⟨?_, rfl⟩
  have back : ∀ {d : List Int}, IsCh n k d → rot (rot d p) ((k - p) % k) = d := fun {d} hd => by
    have hm : (k - p) % k < k := Nat.mod_lt _ (by omega)
    have hl := hd.len
    rw [rot_rot (by omega) (by omega), hl, Nat.add_mod_mod, show p + (k - p) = k by omega, Nat.mod_self, rot_zero]
  rw [← back hc, ← back hc', e]
theorem wins_self {n k : Nat} {c : List Int} (hc : IsCh n k c) : wins c k = (List.range k).map (rot c) := by
  unfold wins
  have hl := hc.len
  subst hl
  exact List.map_congr_left fun p hp => win_is_rot (Nat.le_of_lt (List.mem_range.mp hp))
/-- the loops' windows are all choices, each once -/
theorem loops_all {n k : Nat} (hk : 1 ≤ k) (h : k ≤ n) : ((lps n k).flatMap fun c => wins c k).Perm (allCh n k) := by
  refine (List.perm_ext_iff_of_nodup ?_ (allCh_nodup h)).mpr fun d => ?_
  · show List.Pairwise _ _
    rw [List.pairwise_flatMap]
    constructor
    · intro c hc
      have hc := (mem_lps h).mp hc
      rw [wins_self hc.1]
      exact nodup_mapI (fun p hp q hq e => (loop_once hk hc.1 hc.1 hc.2 hc.2 (List.mem_range.mp hp) (List.mem_range.mp hq) e).2) List.nodup_range
    · have nd : (lps n k).Nodup := (List.filter_sublist).nodup (allCh_nodup h)
      refine List.Pairwise.imp_of_mem ?_ nd
      intro c c' hc hc' ne x hx y hy e
      have hc := (mem_lps h).mp hc
      have hc' := (mem_lps h).mp hc'
      rw [wins_self hc.1] at hx
      rw [wins_self hc'.1] at hy
      obtain ⟨p, hp, rfl⟩ := List.mem_map.mp hx
      obtain ⟨q, hq, rfl⟩ := List.mem_map.mp hy
      exact ne (loop_once hk hc.1 hc'.1 hc.2 hc'.2 (List.mem_range.mp hp) (List.mem_range.mp hq) e).1
  · rw [List.mem_flatMap, mem_allCh h]
    constructor
    · rintro ⟨c, hc, hd⟩
      have hc := (mem_lps h).mp hc
      rw [wins_self hc.1] at hd
      obtain ⟨p, _, rfl⟩ := List.mem_map.mp hd
      exact hc.1.rot p
    · intro hd
      obtain ⟨c, p, hc, hl, hp, e⟩ := to_loop hk hd
      refine ⟨c, (mem_lps h).mpr ⟨hc, hl⟩, ?_⟩
      rw [wins_self hc]
      exact List.mem_map.mpr ⟨p, List.mem_range.mpr hp, e⟩
end WR

-- part: WRMath3
set_option linter.all false
/-! Mathematics 3: a loop is always met, the row of all choices, orders, two orders of unlike loops. Plain Lean. -/
namespace WR

/-! ### one thing changed -/
theorem set_get {c : List Int} {i j : Nat} {x : Int} (h : i ≠ j) : (c.set i x)[j]? = c[j]? := List.getElem?_set_ne h
theorem IsCh.set {n k : Nat} {c : List Int} (h : IsCh n k c) {i : Nat} {x : Int} (hi : i < k) (hx : x ∉ c) (b : 0 ≤ x ∧ x < (n : Int)) : IsCh n k (c.set i x) := by
  refine ⟨by rw [List.length_set]; exact h.len, ?_, fun y hy => ?_⟩
  · have hl := h.len
    rw [List.nodup_iff_pairwise_ne, List.pairwise_iff_getElem]
    intro a d ha hd had
    rw [List.length_set] at ha hd
    rw [List.getElem_set, List.getElem_set]
    have nd := List.pairwise_iff_getElem.mp h.nd a d ha hd had
    split <;> split
    · omega
    · intro e; exact hx (by rw [e]; exact List.getElem_mem _)
    · intro e; exact hx (by rw [← e]; exact List.getElem_mem _)
    · exact nd
  · rcases List.mem_or_eq_of_mem_set hy with hy | rfl
    · exact h.bd y hy
    · exact b
theorem free_thing {n k : Nat} (hkn : k < n) {c : List Int} (h : IsCh n k c) : ∃ y : Int, (0 ≤ y ∧ y < (n : Int)) ∧ y ∉ c := by
  refine Classical.byContradiction fun no => ?_
  have sub : upto n ⊆ c := fun y hy => Classical.byContradiction fun z => no ⟨y, mem_upto.mp hy, z⟩
  have := (upto_nodup n).length_le_of_subset sub
  rw [upto_length, h.len] at this
  omega

/-- what is kept when turned, and when the last thing is changed -/
structure Clo (n k : Nat) (S : List Int → Prop) : Prop where
  turn : ∀ c p, IsCh n k c → S c → p ≤ k → S (rot c p)
  tail : ∀ c d, IsCh n k c → IsCh n k d → c.take (k - 1) = d.take (k - 1) → S c → S d
theorem Clo.set {n k : Nat} {S : List Int → Prop} (C : Clo n k S) {c : List Int} (h : IsCh n k c) (hs : S c) {i : Nat} {x : Int} (hi : i < k) (hx : x ∉ c) (b : 0 ≤ x ∧ x < (n : Int)) : S (c.set i x) := by
  have h2 := h.set hi hx b
  have hl := h.len
  have hl2 := h2.len
  have s1 := C.turn c (i + 1) h hs hi
  have s2 : S (rot (c.set i x) (i + 1)) := by
    refine C.tail _ _ (h.rot _) (h2.rot _) ?_ s1
    apply List.ext_getElem?
    intro j
    by_cases hj : j < k - 1
    · rw [List.getElem?_take_of_lt hj, List.getElem?_take_of_lt hj, rot_get (by omega) (by omega), rot_get (by omega) (by omega)]
      unfold ext
      rw [List.length_set, List.getD_eq_getElem?_getD, List.getD_eq_getElem?_getD, set_get]
      intro e
      rw [hl] at e
      by_cases w : i + 1 + j < k
      · rw [Nat.mod_eq_of_lt w] at e
        omega
      · rw [show i + 1 + j = k + (i + 1 + j - k) by omega, Nat.add_mod_left, Nat.mod_eq_of_lt (by omega)] at e
        omega
    · rw [List.getElem?_eq_none (by rw [List.length_take]; omega), List.getElem?_eq_none (by rw [List.length_take]; omega)]
  have s3 := C.turn _ (k - (i + 1)) (h2.rot _) s2 (by omega)
  rw [rot_rot (by omega) (by omega), hl2, show i + 1 + (k - (i + 1)) = k by omega, Nat.mod_self, rot_zero] at s3
  exact s3
theorem Clo.reach {n k : Nat} (hkn : k < n) {S : List Int → Prop} (C : Clo n k S) {c d : List Int} (h : IsCh n k c) (hs : S c) (hd : IsCh n k d) :
    ∀ i, i ≤ k → ∃ c', IsCh n k c' ∧ S c' ∧ ∀ j, j < i → c'[j]? = d[j]?
  | 0, _ => ⟨c, h, hs, fun j hj => absurd hj (Nat.not_lt_zero _)⟩
  | i + 1, hi => by
    obtain ⟨e, he, se, ag⟩ := Clo.reach hkn C h hs hd i (by omega)
    have ld := hd.len
    have le := he.len
    have hdi : d[i]? = some d[i] := List.getElem?_eq_getElem (by omega)
    have bx := hd.bd d[i] (List.getElem_mem _)
    -- the thing put at i, once it isn't there
    have put : ∀ e' : List Int, IsCh n k e' → S e' → (∀ j, j < i → e'[j]? = d[j]?) → d[i] ∉ e' → ∃ c', IsCh n k c' ∧ S c' ∧ ∀ j, j < i + 1 → c'[j]? = d[j]? := by
      intro e' he' se' ag' nx
      refine ⟨e'.set i d[i], he'.set (by omega) nx bx, C.set he' se' (by omega) nx bx, fun j hj => ?_⟩
      have le' := he'.len
      by_cases q : i = j
      · subst q
        rw [List.getElem?_set_self (by omega), hdi]
      · rw [set_get q]
        exact ag' j (by omega)
    by_cases nx : d[i] ∈ e
    · obtain ⟨j, hj, ej⟩ := List.getElem_of_mem nx
      have hij : i ≤ j := Nat.le_of_not_lt fun q => by
        have a := ag j q
        rw [List.getElem?_eq_getElem hj, List.getElem?_eq_getElem (by omega), ej] at a
        have := (List.getElem_inj hd.nd).mp (Option.some.inj a)
        omega
      by_cases q : i = j
      · subst q
        refine ⟨e, he, se, fun j hj' => ?_⟩
        by_cases z : j = i
        · subst z
          rw [hdi, List.getElem?_eq_getElem hj, ej]
        · exact ag j (by omega)
      · obtain ⟨y, by', ny⟩ := free_thing hkn he
        refine put (e.set j y) (he.set (by omega) ny by') (C.set he se (by omega) ny by') (fun m hm => by rw [set_get (by omega)]; exact ag m hm) fun hm => ?_
        obtain ⟨m, hm', em⟩ := List.getElem_of_mem hm
        rw [List.getElem_set] at em
        split at em
        · exact ny (by rw [em]; exact nx)
        · rename_i z
          rw [List.length_set] at hm'
          have := (List.getElem_inj he.nd).mp (em.trans ej.symm)
          omega
    · exact put e he se ag nx
theorem Clo.all {n k : Nat} (hkn : k < n) {S : List Int → Prop} (C : Clo n k S) {c d : List Int} (h : IsCh n k c) (hs : S c) (hd : IsCh n k d) : S d := by
  obtain ⟨c', h', s', ag⟩ := C.reach hkn h hs hd k (Nat.le_refl _)
  have e : c' = d := List.ext_getElem? fun j => by
    by_cases hj : j < k
    · exact ag j hj
    · rw [List.getElem?_eq_none (by rw [h'.len]; omega), List.getElem?_eq_none (by rw [hd.len]; omega)]
  exact e ▸ s'

/-! ### the row on the way -/
structure RowInv (n k : Nat) (R : List Int) (L : List (List Int)) : Prop where
  ne : R ≠ []
  bd : ∀ x ∈ R, 0 ≤ x ∧ x < (n : Int)
  all : (wins R k ++ L.flatMap fun c => wins c k).Perm (allCh n k)
  cl : ∀ c ∈ wins R k, ∀ p, p ≤ k → rot c p ∈ wins R k
  lp : ∀ l ∈ L, IsCh n k l
theorem loop_cl {n k : Nat} (hk : 1 ≤ k) {l : List Int} (hl : IsCh n k l) : ∀ c ∈ wins l k, ∀ p, p ≤ k → rot c p ∈ wins l k := by
  intro c hc p hp
  rw [wins_self hl] at hc ⊢
  obtain ⟨q, hq, rfl⟩ := List.mem_map.mp hc
  have hq := List.mem_range.mp hq
  have len := hl.len
  rw [rot_rot (by omega) (by omega), len]
  exact List.mem_map.mpr ⟨_, List.mem_range.mpr (Nat.mod_lt _ (by omega)), rfl⟩
theorem RowInv.start {n k : Nat} (hk : 1 ≤ k) (h : k ≤ n) {R : List Int} {L : List (List Int)} (e : lps n k = R :: L) : RowInv n k R L := by
  have mem : ∀ l ∈ R :: L, IsCh n k l := fun l hl => ((mem_lps h).mp (e ▸ hl)).1
  have hR := mem R List.mem_cons_self
  refine ⟨fun z => ?_, hR.bd, ?_, loop_cl hk hR, fun l hl => mem l (List.mem_cons_of_mem _ hl)⟩
  · have := hR.len
    rw [z] at this
    simp at this
    omega
  · have := loops_all hk h
    rw [e] at this
    exact this
theorem flat_erase {L : List (List Int)} {i : Nat} {l : List Int} (f : List Int → List (List Int)) (h : L[i]? = some l) : (L.flatMap f).Perm (f l ++ (L.eraseIdx i).flatMap f) := by
  obtain ⟨hi, e⟩ := List.getElem?_eq_some_iff.mp h
  have e1 : L = L.take i ++ l :: L.drop (i + 1) := by
    rw [← e, List.getElem_cons_drop, List.take_append_drop]
  rw [List.eraseIdx_eq_take_drop_succ]
  have e2 : L.flatMap f = (L.take i).flatMap f ++ (f l ++ (L.drop (i + 1)).flatMap f) := by
    conv => lhs; rw [e1, List.flatMap_append, List.flatMap_cons]
  rw [e2, List.flatMap_append, ← List.append_assoc, ← List.append_assoc]
  exact List.perm_append_comm.append_right _
theorem RowInv.step {n k : Nat} (hk : 1 ≤ k) {R : List Int} {L : List (List Int)} (I : RowInv n k R L) {i p q : Nat} {l : List Int} (hi : L[i]? = some l) (hp : p < R.length) (hq : q < l.length)
    (h : win R (k - 1) p = win l (k - 1) q) : RowInv n k (rot R p ++ rot l q) (L.eraseIdx i) := by
  have ml : l ∈ L := List.mem_of_getElem? hi
  have hl := I.lp l ml
  have J := wins_joined hp hq h
  refine ⟨fun z => rot_ne I.ne (List.append_eq_nil_iff.mp z).1, fun x hx => ?_, ?_, fun c hc r hr => ?_, fun m hm => I.lp m (List.mem_of_mem_eraseIdx hm)⟩
  · rcases List.mem_append.mp hx with hx | hx
    · exact I.bd x ((rot_perm R p).mem_iff.mp hx)
    · exact hl.bd x ((rot_perm l q).mem_iff.mp hx)
  · refine List.Perm.trans ?_ I.all
    refine (J.append_right _).trans ?_
    rw [List.append_assoc]
    exact (flat_erase (fun c => wins c k) hi).symm.append_left _
  · rw [J.mem_iff, List.mem_append] at hc ⊢
    rcases hc with hc | hc
    · exact .inl (I.cl c hc r hr)
    · exact .inr (loop_cl hk hl c hc r hr)
theorem RowInv.nodup {n k : Nat} (h : k ≤ n) {R : List Int} {L : List (List Int)} (I : RowInv n k R L) : (wins R k ++ L.flatMap fun c => wins c k).Nodup := I.all.nodup_iff.mpr (allCh_nodup h)
/-- some loop that is left shares a window of k - 1 with the row -/
theorem RowInv.meet {n k : Nat} (hk : 1 ≤ k) (hkn : k < n) {R : List Int} {L : List (List Int)} (I : RowInv n k R L) (hL : L ≠ []) :
    ∃ l ∈ L, ∃ w ∈ wins l (k - 1), w ∈ wins R (k - 1) := by
  refine Classical.byContradiction fun no => ?_
  have head : ∀ {a c : List Int}, c ∈ wins a k → c.take (k - 1) ∈ wins a (k - 1) := fun {a c} hc => by
    obtain ⟨p, hp, e⟩ := mem_wins.mp hc
    exact mem_wins.mpr ⟨p, hp, by rw [← e, win_take a (by omega)]⟩
  have C : Clo n k fun c => c ∈ wins R k := by
    refine ⟨fun c p _ hc hp => I.cl c hc p hp, fun c d _ hd e hc => ?_⟩
    have md : d ∈ wins R k ++ L.flatMap fun c => wins c k := I.all.mem_iff.mpr ((mem_allCh (by omega)).mpr hd)
    rcases List.mem_append.mp md with m | m
    · exact m
    · obtain ⟨l, hl, m⟩ := List.mem_flatMap.mp m
      exact (no ⟨l, hl, d.take (k - 1), head m, by rw [← e]; exact head hc⟩).elim
  obtain ⟨l, hl⟩ : ∃ l, l ∈ L := by
    cases L with
    | nil => exact absurd rfl hL
    | cons l _ => exact ⟨l, List.mem_cons_self⟩
  have lR : 0 < R.length := List.length_pos_iff.mpr I.ne
  have mR : win R k 0 ∈ wins R k := mem_wins.mpr ⟨0, lR, rfl⟩
  have hR : IsCh n k (win R k 0) := (mem_allCh (by omega)).mp (I.all.mem_iff.mp (List.mem_append_left _ mR))
  have hIl := I.lp l hl
  have inR := C.all hkn hR mR hIl
  have inL : l ∈ L.flatMap fun c => wins c k := List.mem_flatMap.mpr ⟨l, hl, by
    rw [wins_self hIl]
    exact List.mem_map.mpr ⟨0, List.mem_range.mpr (by omega), rot_zero l⟩⟩
  exact (List.nodup_append.mp (I.nodup (by omega))).2.2 l inR l inL rfl

/-- things of a round row in which each choice of k stands just once -/
structure RoundOk (n k : Nat) (R : List Int) : Prop where
  ne : R ≠ []
  bd : ∀ x ∈ R, 0 ≤ x ∧ x < (n : Int)
  all : (wins R k).Perm (allCh n k)
theorem RowInv.done {n k : Nat} {R : List Int} (I : RowInv n k R []) : RoundOk n k R := ⟨I.ne, I.bd, by have := I.all; simpa using this⟩
theorem lps_small {n k : Nat} (hk : 1 ≤ k) (h : k ≤ n) (hn : n ≤ 2) (hkn : k = n) : ∃ R, lps n k = [R] := by
  subst hkn
  have : k = 1 ∨ k = 2 := by omega
  rcases this with rfl | rfl
  · exact ⟨[0], by decide⟩
  · exact ⟨[0, 1], by decide⟩
theorem lps_ne {n k : Nat} (hk : 1 ≤ k) (h : k ≤ n) : lps n k ≠ [] := fun e => by
  have := loops_all hk h
  rw [e] at this
  have l := this.length_eq
  rw [allCh_length] at l
  have := cnt_pos h
  simp at l
  omega
/-- once: what the law looks at -/
structure Once (n k : Nat) (ws : List (List Int)) : Prop where
  len : ws.length = cnt n k
  nd : ws.Nodup
  ch : ∀ w ∈ ws, IsCh n k w
theorem Once.of {n k : Nat} (h : k ≤ n) {ws : List (List Int)} (p : ws.Perm (allCh n k)) : Once n k ws :=
  ⟨by rw [p.length_eq, allCh_length], p.nodup_iff.mpr (allCh_nodup h), fun w hw => (mem_allCh h).mp (p.mem_iff.mp hw)⟩
theorem Once.perm {n k : Nat} {ws vs : List (List Int)} (o : Once n k ws) (p : vs.Perm ws) : Once n k vs :=
  ⟨p.length_eq.trans o.len, p.nodup_iff.mpr o.nd, fun w hw => o.ch w (p.mem_iff.mp hw)⟩
theorem RoundOk.once {n k : Nat} (h : k ≤ n) {R : List Int} (r : RoundOk n k R) : Once n k (wins R k) := Once.of h r.all
theorem RoundOk.length {n k : Nat} {R : List Int} (r : RoundOk n k R) : R.length = cnt n k := by
  have := r.all.length_eq
  rwa [wins_length, allCh_length] at this

/-! ### orders -/
/-- the things that aren't in a choice -/
def lack (n : Nat) (c : List Int) : List Int := (upto n).filter fun x => decide (x ∉ c)
theorem mem_lack {n : Nat} {c : List Int} {x : Int} : x ∈ lack n c ↔ (0 ≤ x ∧ x < (n : Int)) ∧ x ∉ c := by
  unfold lack
  rw [List.mem_filter, mem_upto]
  simp
theorem lack_nodup (n : Nat) (c : List Int) : (lack n c).Nodup := (List.filter_sublist).nodup (upto_nodup n)
theorem order_of {n k : Nat} (h : k + 1 = n) {c : List Int} (hc : IsCh n k c) : IsCh n n (c ++ lack n c) := by
  have nd : (c ++ lack n c).Nodup := List.nodup_append.mpr ⟨hc.nd, lack_nodup n c, fun x hx y hy e => (mem_lack.mp hy).2 (e ▸ hx)⟩
  have bd : ∀ x ∈ c ++ lack n c, 0 ≤ x ∧ x < (n : Int) := fun x hx => by
    rcases List.mem_append.mp hx with hx | hx
    · exact hc.bd x hx
    · exact (mem_lack.mp hx).1
  refine ⟨Nat.le_antisymm ?_ ?_, nd, bd⟩
  · have := nd.length_le_of_subset (l₂ := upto n) fun x hx => mem_upto.mpr (bd x hx)
    rwa [upto_length] at this
  · have := (upto_nodup n).length_le_of_subset (l₂ := c ++ lack n c) fun x hx => by
      rw [List.mem_append]
      by_cases q : x ∈ c
      · exact .inl q
      · exact .inr (mem_lack.mpr ⟨mem_upto.mp hx, q⟩)
    rwa [upto_length] at this
theorem orders_once {n k : Nat} (h : k + 1 = n) {ws : List (List Int)} (o : Once n k ws) : Once n n (ws.map fun w => w ++ lack n w) := by
  refine ⟨?_, nodup_mapI (fun a ha b hb e => ?_) o.nd, fun v hv => ?_⟩
  · rw [List.length_map, o.len, cnt_full n (by omega), ← h, Nat.add_sub_cancel]
  · have la := (o.ch a ha).len
    have lb := (o.ch b hb).len
    have := congrArg (List.take k) e
    rwa [List.take_left' la, List.take_left' lb] at this
  · obtain ⟨w, hw, rfl⟩ := List.mem_map.mp hv
    exact order_of h (o.ch w hw)

/-! ### where k is n, from three on -/
theorem upto_ch (n : Nat) : IsCh n n (upto n) := ⟨upto_length n, upto_nodup n, fun x hx => mem_upto.mp hx⟩
theorem isch_perm {n k : Nat} {c d : List Int} (h : IsCh n k c) (p : d.Perm c) : IsCh n k d := ⟨p.length_eq.trans h.len, p.nodup_iff.mpr h.nd, fun x hx => h.bd x (p.mem_iff.mp hx)⟩
/-- the other order: the first two changed about -/
def swapped (n : Nat) : List Int := 1 :: 0 :: (upto n).drop 2
theorem upto_two {n : Nat} (h : 2 ≤ n) : upto n = 0 :: 1 :: (upto n).drop 2 := by
  obtain ⟨m, rfl⟩ : ∃ m, n = m + 2 := ⟨n - 2, by omega⟩
  simp [upto, List.range_succ_eq_map]
theorem swapped_perm {n : Nat} (h : 2 ≤ n) : (swapped n).Perm (upto n) := by
  rw [upto_two h]
  exact List.Perm.swap _ _ _
theorem swapped_ch {n : Nat} (h : 2 ≤ n) : IsCh n n (swapped n) := isch_perm (upto_ch n) (swapped_perm h)
theorem wins_upto {n k : Nat} {c : List Int} (h : 1 ≤ k) (hc : IsCh n k c) : (wins c k).Nodup ∧ (∀ w ∈ wins c k, IsCh n k w) := by
  rw [wins_self hc]
  constructor
  · have hl := hc.len
    refine nodup_mapI (fun p hp q hq e => ?_) List.nodup_range
    have hp := List.mem_range.mp hp
    have hq := List.mem_range.mp hq
    have := congrArg (fun l : List Int => l[0]?) e
    rw [rot_get (by omega) (by omega), rot_get (by omega) (by omega), ext_lt (by omega), ext_lt (by omega)] at this
    exact (List.getElem_inj hc.nd).mp (Option.some.inj this)
  · intro w hw
    obtain ⟨p, _, rfl⟩ := List.mem_map.mp hw
    exact hc.rot p
/-- the loop of a choice: begun at its least thing -/
def LoopOf (c d : List Int) : Prop := ∃ i, i < c.length ∧ (∀ x ∈ c, c.getD i 0 ≤ x) ∧ d = rot c i
theorem least_at {n : Nat} {c : List Int} (hc : IsCh n n c) (h1 : 1 ≤ n) {i : Nat} (hi : i < c.length) (h : ∀ x ∈ c, c.getD i 0 ≤ x) : c[i] = 0 := by
  have e : c.getD i 0 = c[i] := by simp [List.getD_eq_getElem?_getD, hi]
  have m0 : (0 : Int) ∈ c := Classical.byContradiction fun no => by
    have sub : c ⊆ (upto n).erase 0 := fun x hx => by
      rw [List.Nodup.mem_erase_iff (upto_nodup n)]
      exact ⟨fun z => no (z ▸ hx), mem_upto.mpr (hc.bd x hx)⟩
    have := hc.nd.length_le_of_subset sub
    have hz : (0 : Int) ∈ upto n := mem_upto.mpr (by omega)
    rw [List.length_erase_of_mem hz, upto_length, hc.len] at this
    omega
  have a := h 0 m0
  have b := hc.bd c[i] (List.getElem_mem _)
  rw [e] at a
  omega
theorem loop_upto {n : Nat} (h : 1 ≤ n) {d : List Int} (hd : LoopOf (upto n) d) : d = upto n := by
  obtain ⟨i, hi, hm, rfl⟩ := hd
  have e := least_at (upto_ch n) h hi hm
  have e2 : (upto n)[i]? = some (i : Int) := upto_get (by rw [upto_length] at hi; exact hi)
  rw [List.getElem?_eq_getElem hi, e] at e2
  have : i = 0 := by
    have := Option.some.inj e2
    omega
  rw [this, rot_zero]
theorem loop_swapped {n : Nat} (h : 2 ≤ n) {d : List Int} (hd : LoopOf (swapped n) d) : d = 0 :: ((upto n).drop 2 ++ [1]) := by
  obtain ⟨i, hi, hm, rfl⟩ := hd
  have e := least_at (swapped_ch h) (by omega) hi hm
  have e1 : (swapped n)[1]'(by rw [(swapped_ch h).len]; omega) = 0 := rfl
  have : i = 1 := (List.getElem_inj (swapped_ch h).nd).mp (e.trans e1.symm)
  rw [this]
  rfl
theorem loops_unlike {n : Nat} (h : 3 ≤ n) {d e : List Int} (hd : LoopOf (upto n) d) (he : LoopOf (swapped n) e) : d ≠ e := by
  rw [loop_upto (by omega) hd, loop_swapped (by omega) he]
  intro q
  have q1 := congrArg (fun l : List Int => l[1]?) q
  rw [upto_get (by omega)] at q1
  have q2 : (0 :: ((upto n).drop 2 ++ [1]) : List Int)[1]? = some 2 := by
    show ((upto n).drop 2 ++ [1])[0]? = some 2
    rw [List.getElem?_append_left (by rw [List.length_drop, upto_length]; omega), List.getElem?_drop]
    exact upto_get (by omega)
  rw [q2] at q1
  have := Option.some.inj q1
  omega
theorem loops_like2 {d e : List Int} (hd : LoopOf (upto 2) d) (he : LoopOf (swapped 2) e) : d = e := by
  rw [loop_upto (by omega) hd, loop_swapped (by omega) he]
  rfl
end WR

-- part: WRMath4
set_option linter.all false
/-! Mathematics 4: what a parted row's parts share. Plain Lean. -/
namespace WR
theorem part_both {r : List Int} {k p q : Nat} (hpq : p < q) (hq : q < r.length) (h : win r (k - 1) p = win r (k - 1) q) :
    win ((r.drop p).take (q - p)) (k - 1) 0 = win (r.drop q ++ r.take p) (k - 1) 0 := by
  have e := part_inner hpq hq
  have la : ((r.drop p).take (q - p)).length = q - p := by rw [List.length_take, List.length_drop]; omega
  generalize (r.drop p).take (q - p) = a at e la ⊢
  have lb : (r.drop q ++ r.take p).length = r.length - (q - p) := by rw [List.length_append, List.length_drop, List.length_take]; omega
  generalize r.drop q ++ r.take p = b at e lb ⊢
  have ha : a ≠ [] := fun z => by rw [z, List.length_nil] at la; omega
  have hb : b ≠ [] := fun z => by rw [z, List.length_nil] at lb; omega
  have h1 : win (a ++ b) (k - 1) 0 = win r (k - 1) p := by rw [← e, win_rot (by omega)]; rfl
  have h2 : win (a ++ b) (k - 1) a.length = win r (k - 1) q := by rw [← e, win_rot (by omega), la, show p + (q - p) = q by omega]
  have h' : ∀ i, i < k - 1 → ext (a ++ b) i = ext (b ++ a) i := fun i hi => by
    have z := win_eq (h1.trans (h.trans h2.symm)) hi
    rw [ext_append_right, Nat.zero_add] at z
    exact z
  refine win_ext fun j hj => ?_
  have z := agree_part ha hb h' j hj
  rw [Nat.zero_add, z.1, z.2]
theorem mem_rot {a w : List Int} {k i : Nat} (hi : i ≤ a.length) : w ∈ wins (rot a i) k ↔ w ∈ wins a k := (wins_rot_perm hi k).mem_iff
end WR

-- part: WRBase
set_option Elab.async false
set_option linter.all false
set_option maxRecDepth 100000
set_option maxHeartbeats 4000000
/-! The base of the walk: the text by places, callees as one fact each, what stands in the heap. -/
namespace WR
open PySem PySem.Spec PyProof.Rows L2

/-! ### the text -/
def topS (i : Nat) : Stmt := PySem.Challenge.pw_orderrows_k74_whole_rounds.main.body.getD i (.Pass ⟨0, 0, 0, 0⟩)

/-! ### a callee, as one fact -/
structure CalF (P : Program) (w : World) (K : PySem.W.Frag) (mg : Str → Option Value) (base : Heap) (k : Nat) (x : Str) (sp : Sp) : Prop where
  ex : ∃ (f : Addr) (fd : FuncData) (ps : List Str), FnOk P w K mg base CX0 k f fd ps sp ∧ mg x = some (.ref f) ∧ PySem.W.keepIn K (.ref f) = true ∧ Binds K fd ps []
/-- a method of the class at C -/
structure MetF (P : Program) (w : World) (K : PySem.W.Frag) (mg : Str → Option Value) (base : Heap) (k : Nat) (C : Addr) (m : Str) (sp : Sp) : Prop where
  ex : ∃ (f : Addr) (fd : FuncData) (ps : List Str), FnOk P w K mg base CX0 k f fd ps sp ∧ Meth K C m f ∧ Binds K fd ps []
/-- a class that is called -/
structure MakF (P : Program) (w : World) (K : PySem.W.Frag) (mg : Str → Option Value) (base : Heap) (k : Nat) (x : Str) (C : Addr) (sp : Sp) : Prop where
  ex : ∃ (f : Addr) (fd : FuncData) (ps : List Str), FnOk P w K mg base CX0 k f fd ps sp ∧ mg x = some (.ref C) ∧ Mk K C f ∧ Binds K fd ps []
section
variable {X : Cx} {k j : Nat} {C : Addr} {sp : Sp} {x m : Str} {p pos apos : Pos} {e o : Expr} {es : List Expr} {ta : TE} {t : TA}
theorem pe_cal (c : CalF X.prog X.w X.K X.mg X.base k x sp) (hr : Room j X.A) (hk : k ≤ j) (hg : Gl X x) (ha : PA X (e :: es) t)
    (hdb : (x == ("__debug__" : Str)) = false := by decide) (he : starEach (e :: es) X.env = (false, eval e X.env) :: starEach es X.env := by rfl) (hpl : (backTo pos (starEach es X.env)).any (·.1) = false := by rfl) :
    PE X (.Call (.Name x p) (e :: es) [] pos) (tCall sp [] E0 t) := by
  obtain ⟨f, fd, ps, F, hm, kp, b⟩ := c.ex
  exact pe_call F (hr.mono hk) hg hm kp b .nil pass0 ha hdb he hpl
theorem pe_met {pl : Sem Bool} (he : PE X o ta) (c : Cls X.K C) (h : MetF X.prog X.w X.K X.mg X.base k C m sp) (hr : Room j X.A) (hk : k ≤ j) (ha : PA X (e :: es) t)
    (hst : starEach (e :: es) X.env = (false, eval e X.env) :: starEach es X.env := by rfl) (hpl : (backTo pos (starEach es X.env)).any (·.1) = false := by rfl)
    (ht : eval (.Call (.Attribute o m apos) (e :: es) [] pos) X.env = (do
      let ov ← eval o X.env
      standAt apos.atName
      let (f, first) ← holding [ov] (getMethod ov m pl)
      callWith pos f first (backTo pos (starEach (e :: es) X.env)) (backToKw pos (keywordEach [] X.env))) := by rfl) :
    PE X (.Call (.Attribute o m apos) (e :: es) [] pos) (tMeth C m sp [] E0 ta t) := by
  obtain ⟨f, fd, ps, F, hm, b⟩ := h.ex
  exact pe_meth he c hm F (hr.mono hk) b .nil pass0 ha hst hpl ht
theorem pe_met0 {pl : Sem Bool} (he : PE X o ta) (c : Cls X.K C) (h : MetF X.prog X.w X.K X.mg X.base k C m sp) (hr : Room j X.A) (hk : k ≤ j)
    (ht : eval (.Call (.Attribute o m apos) [] [] pos) X.env = (do
      let ov ← eval o X.env
      standAt apos.atName
      let (f, first) ← holding [ov] (getMethod ov m pl)
      callWith pos f first (backTo pos (starEach [] X.env)) (backToKw pos (keywordEach [] X.env))) := by rfl) :
    PE X (.Call (.Attribute o m apos) [] [] pos) (tMeth C m sp [] E0 ta tNil) := by
  obtain ⟨f, fd, ps, F, hm, b⟩ := h.ex
  exact pe_meth0 he c hm F (hr.mono hk) b .nil pass0 ht
theorem pe_mak (c : MakF X.prog X.w X.K X.mg X.base k x C sp) (hr : Room j X.A) (hk : k + 1 ≤ j) (hg : Gl X x) (ha : PA X (e :: es) t)
    (hdb : (x == ("__debug__" : Str)) = false := by decide) (he : starEach (e :: es) X.env = (false, eval e X.env) :: starEach es X.env := by rfl) (hpl : (backTo pos (starEach es X.env)).any (·.1) = false := by rfl) :
    PE X (.Call (.Name x p) (e :: es) [] pos) (tMake C sp [] E0 t) := by
  obtain ⟨f, fd, ps, F, hm, M, b⟩ := c.ex
  exact pe_make M F (hr.mono hk) hg hm b .nil pass0 ha hdb he hpl
end

/-! ### a def as it stands behind the top (defaults dvs) -/
abbrev FunS (K : PySem.W.Frag) (x qual : Str) (st : Stmt) (dvs : List V) (f : Addr) (fd : FuncData) : Prop := FunD K x qual (defArgs st) (defBody st) (defScope st) dvs [] f fd
/-- THE RULE for a body from which nothing is raised -/
theorem body0 {P : Program} {w : World} {K : PySem.W.Frag} {mg : Str → Option Value} {base : Heap} {x qual : Str} {st : Stmt} {dvs : List V} {f : Addr} {fd : FuncData} {N ps : List Str} {k : Nat} {sp : Sp}
    (F : FunS K x qual st dvs f fd) (S : FnScope N ps (defScope st)) (len : ∀ vs H Q E, sp vs H Q E → vs.length = ps.length)
    (hbody : ∀ (cdv : Value) (A : Around) (outer : List Env) (s : Shared) (H : Hp) (vs : List V) (Q : VK) (E : XK), Room k (A.deeper (envOfC qual (defScope st) s.heap.objs.size f cdv)) → sp vs H Q E →
      ∃ t, PSs (cxOf CX0 P w K mg base N qual (defScope st) f cdv A outer s H E).nox (defBody st) t ∧ t { nx := fun _ H' => Q .non H', rt := Q } (start N vs) H) : FnOk P w K mg base CX0 (k + 1) f fd ps sp :=
  F.ok S len fun cdv A outer s H vs Q E hr hsp => by
    obtain ⟨t, h, q⟩ := hbody cdv A outer s H vs Q E hr hsp
    exact ⟨t, h.nox, q⟩

/-- the names of the interpreter that the text uses are its own -/
structure Glb (mg : Str → Option Value) : Prop where
  isinstance : mg "isinstance" = none
  int : mg "int" = none
  bool : mg "bool" = none
  tuple : mg "tuple" = none
  str : mg "str" = none
  len : mg "len" = none
  all : mg "all" = none
  any : mg "any" = none
  set : mg "set" = none
  range : mg "range" = none
  list : mg "list" = none
  divmod : mg "divmod" = none
  max : mg "max" = none
  min : mg "min" = none
  dict : mg "dict" = none
  enumerate : mg "enumerate" = none
  sorted : mg "sorted" = none
  abs : mg "abs" = none

/-! ### what stands in the heap -/
/-- a tuple of these ints -/
def IT (H : Hp) (v : V) (ts : List Int) : Prop := ∃ a, v = .ref a ∧ H a = some (.tup (ts.map V.int))
theorem IT.same {H H' : Hp} {v : V} {ts : List Int} (s : Same H H') (h : IT H v ts) : IT H' v ts := by
  obtain ⟨a, e, h⟩ := h
  exact ⟨a, e, s _ _ h⟩
/-- item by item -/
abbrev Its (H : Hp) : List V → List (List Int) → Prop := Paired (IT H)
theorem Its.same {H H' : Hp} {vs : List V} {ws : List (List Int)} (s : Same H H') (h : Its H vs ws) : Its H' vs ws := Paired.mapP h fun _ _ => IT.same s
/-- a tuple as it stands, or seen through the eyes of one who knows that it has no dict of its own -/
def IR (H : Hp) (v : V) (ts : List Int) : Prop := ∃ a, v = .ref a ∧ Rd H a (.tup (ts.map V.int))
theorem IT.r {H : Hp} {v : V} {ts : List Int} (h : IT H v ts) : IR H v ts := by
  obtain ⟨a, e, h⟩ := h
  exact ⟨a, e, .inl h⟩
theorem IR.same {H H' : Hp} {v : V} {ts : List Int} (s : Same H H') (h : IR H v ts) : IR H' v ts := by
  obtain ⟨a, e, h⟩ := h
  refine ⟨a, e, ?_⟩
  rcases h with h | ⟨o, h⟩
  · exact .inl (s _ _ h)
  · exact .inr ⟨o, s _ _ h⟩
theorem IR.rd_at {H : Hp} {a : Addr} {ts : List Int} (h : IR H (.ref a) ts) : Rd H a (.tup (ts.map V.int)) := by
  obtain ⟨b, e, h⟩ := h
  cases e
  exact h
def TupF (H : Hp) (a : Addr) (vs : List V) : Prop := ∃ o : Obj, H a = some (.frz o (.tup vs)) ∧ o.cls = .type "tuple" ∧ o.dict = none
theorem TupF.same {H H' : Hp} {a : Addr} {vs : List V} (s : Same H H') (h : TupF H a vs) : TupF H' a vs := by
  obtain ⟨o, h, r⟩ := h
  exact ⟨o, s _ _ h, r⟩
theorem TupF.rd {H : Hp} {a : Addr} {vs : List V} (h : TupF H a vs) : Rd H a (.tup vs) := by
  obtain ⟨o, h, _⟩ := h
  exact .inr ⟨o, h⟩
def ITF (H : Hp) (v : V) (ts : List Int) : Prop := ∃ a, v = .ref a ∧ TupF H a (ts.map V.int)
theorem ITF.r {H : Hp} {v : V} {ts : List Int} (h : ITF H v ts) : IR H v ts := by
  obtain ⟨a, e, h⟩ := h
  exact ⟨a, e, h.rd⟩
theorem ITF.same {H H' : Hp} {v : V} {ts : List Int} (s : Same H H') (h : ITF H v ts) : ITF H' v ts := by
  obtain ⟨a, e, h⟩ := h
  exact ⟨a, e, h.same s⟩
/-- a tuple, a list of tuples of ints -/
def WT (H : Hp) (v : V) (ws : List (List Int)) : Prop := ∃ a vs, v = .ref a ∧ TupF H a vs ∧ Its H vs ws
def WL (H : Hp) (v : V) (ws : List (List Int)) : Prop := ∃ a vs, v = .ref a ∧ H a = some (.lst vs) ∧ Its H vs ws
theorem WT.same {H H' : Hp} {v : V} {ws : List (List Int)} (s : Same H H') (h : WT H v ws) : WT H' v ws := by
  obtain ⟨a, vs, e, h, i⟩ := h
  exact ⟨a, vs, e, h.same s, i.same s⟩
theorem WL.same {H H' : Hp} {v : V} {ws : List (List Int)} (s : Same H H') (h : WL H v ws) : WL H' v ws := by
  obtain ⟨a, vs, e, h, i⟩ := h
  exact ⟨a, vs, e, s _ _ h, i.same s⟩
theorem same_refl0 (H : Hp) : Same H H := fun _ _ e => e
theorem same_new {H : Hp} {p : Addr} {o : HO} (h : H p = none) : Same H (upd H p o) := fun b x e => by
  rw [upd_ne (ne_of_none e h)]
  exact e
theorem same_mut {H H' : Hp} {p : Addr} {o : HO} (s : Same H H') (h : H p = none) : Same H (upd H' p o) := fun b x e => by
  rw [upd_ne (ne_of_none e h)]
  exact s _ _ e
theorem szl {n : Nat} (h : n ≤ 100000) : n ≤ sizeLine := Nat.le_trans h (by decide)
theorem szlt {n : Nat} (h : n < 100000) : n < sizeLine := Nat.lt_of_lt_of_le h (by decide)
theorem blT {p : Prop} [Decidable p] (h : p) : V.bl (decide p) = V.bl true := by rw [decide_eq_true h]
theorem blF {p : Prop} [Decidable p] (h : ¬ p) : V.bl (decide p) = V.bl false := by rw [decide_eq_false h]
theorem qT {Q : VK} {H : Hp} {p : Prop} [Decidable p] (h : p) (q : Q (.bl true) H) : Q (.bl (decide p)) H := by rw [decide_eq_true h]; exact q
theorem qF {Q : VK} {H : Hp} {p : Prop} [Decidable p] (h : ¬ p) (q : Q (.bl false) H) : Q (.bl (decide p)) H := by rw [decide_eq_false h]; exact q
theorem qNT {Q : VK} {H : Hp} {p : Prop} [Decidable p] (h : p) (q : Q (.bl false) H) : Q (.bl (!decide p)) H := by rw [decide_eq_true h]; exact q
theorem qNF {Q : VK} {H : Hp} {p : Prop} [Decidable p] (h : ¬ p) (q : Q (.bl true) H) : Q (.bl (!decide p)) H := by rw [decide_eq_false h]; exact q
theorem blNT {p : Prop} [Decidable p] (h : p) : V.bl (!decide p) = V.bl false := by rw [decide_eq_true h]; rfl
theorem blNF {p : Prop} [Decidable p] (h : ¬ p) : V.bl (!decide p) = V.bl true := by rw [decide_eq_false h]; rfl
end WR

-- part: WRW1
set_option Elab.async false
set_option linter.all false
set_option maxRecDepth 100000
set_option maxHeartbeats 4000000
/-! choices.py -/
namespace WR
open PySem PySem.Spec PyProof.Rows L2
section
variable {P : Program} {w : World} {K : PySem.W.Frag} {mg : Str → Option Value} {base : Heap}

/-! is_whole -/
abbrev sWholeC : Stmt := topS 10
abbrev sWholeR : Stmt := topS 21
theorem scWholeC : FnScope ["thing"] ["thing"] (defScope sWholeC) := ⟨rfl, rfl, rfl, by decide +kernel, rfl, by decide +kernel, by decide +kernel⟩
def spWhole : Sp := fun vs H Q _ => ∃ i : Int, vs = [.int i] ∧ Q (.bl true) H
theorem ok_wholeC {f : Addr} {fd : FuncData} (G : Glb mg) (F : FunS K "is_whole" "is_whole" sWholeC [] f fd) : FnOk P w K mg base CX0 1 f fd ["thing"] spWhole := by
  refine body0 F scWholeC (fun vs H Q E h => ?_) (fun cdv A outer s H vs Q E hr h => ?_)
  · obtain ⟨i, rfl, _⟩ := h
    rfl
  · obtain ⟨i, rfl, q⟩ := h
    refine ⟨_, pss_one (ps_ret (pe_and (pe_callB call_isi (by rfl) G.isinstance boot_isinstance (pa_cons (pv 0) (pa_cons (pe_bltn (v := .ty "int") (by rfl) G.int PyProof.Rows.boot_int rfl) pa_nil)))
      (pe_one (pe_not (pe_callB call_isi (by rfl) G.isinstance boot_isinstance (pa_cons (pv 0) (pa_cons (pe_bltn (v := .ty "bool") (by rfl) G.bool PyProof.Rows.boot_bool rfl) pa_nil))))))), ?_⟩
    refine ⟨_, rfl, .int i, .ty "int", _, _, true, rfl, .ty _, .base (.int i), kit_ty (by decide +kernel), true, rfl, iteT ?_⟩
    exact ⟨_, rfl, .int i, .ty "bool", _, _, false, rfl, .ty _, .base (.int i), kit_ty (by decide +kernel), false, rfl, q⟩

/-! is_thing -/
abbrev sThing : Stmt := topS 12
theorem scThing : FnScope ["n", "thing"] ["n", "thing"] (defScope sThing) := ⟨rfl, rfl, rfl, by decide +kernel, rfl, by decide +kernel, by decide +kernel⟩
def spThing : Sp := fun vs H Q _ => ∃ (n i : Int), vs = [.int n, .int i] ∧ 0 ≤ i ∧ i < n ∧ Q (.bl true) H
theorem ok_thing {f : Addr} {fd : FuncData} (F : FunS K "is_thing" "is_thing" sThing [] f fd) (c : CalF P w K mg base 1 "is_whole_choices" spWhole) : FnOk P w K mg base CX0 2 f fd ["n", "thing"] spThing := by
  refine body0 F scThing (fun vs H Q E h => ?_) (fun cdv A outer s H vs Q E hr h => ?_)
  · obtain ⟨n, i, rfl, _⟩ := h
    rfl
  · obtain ⟨n, i, rfl, h0, h1, q⟩ := h
    refine ⟨_, pss_one (ps_ret (pe_and (pe_cal c hr (by decide) (by rfl) (pa_cons (pv 1) pa_nil)) (pe_one (pe_chain op_le op_lt pe_int (pv 1) (pv 0))))), ?_⟩
    refine ⟨_, rfl, i, rfl, true, rfl, iteT ?_⟩
    exact ⟨_, rfl, 0, i, rfl, rfl, true, blT h0, iteT ⟨_, rfl, i, n, rfl, rfl, qT h1 q⟩⟩
end
end WR

-- part: WRSet1
set_option Elab.async false
set_option linter.all false
set_option maxRecDepth 1000000
set_option maxHeartbeats 4000000
/-! A set's table at up to 2,048 slots: new keys alone are put in, so only the free slots count. -/
namespace WR
open PySem PySem.Spec PyProof.Rows L2

/-! ### every slot is met -/
def orb (m : Nat) : Nat → Nat → Nat → Nat
  | 0, _, b => b
  | f + 1, x, b => orb m f ((x * 5 + 1) % (m + 1)) (b ||| 2 ^ x)
theorem lcgI_one (m i : Nat) : ∀ k, lcgI m ((i * 5 + 1) % (m + 1)) k = lcgI m i (k + 1)
  | 0 => rfl
  | k + 1 => congrArg (fun z => (z * 5 + 1) % (m + 1)) (lcgI_one m i k)
theorem orb_spec (m j : Nat) : ∀ f x b, (orb m f x b).testBit j = true → b.testBit j = true ∨ ∃ k, k < f ∧ lcgI m x k = j := by
  intro f
  induction f with
  | zero => intro x b h; exact .inl h
  | succ f ih =>
    intro x b h
    rcases ih _ _ h with c | ⟨k, c1, c2⟩
    · rw [Nat.testBit_or, Bool.or_eq_true] at c
      rcases c with c | c
      · exact .inl c
      · rw [Nat.testBit_two_pow] at c
        exact .inr ⟨0, Nat.succ_pos _, by show x = j; simpa using c⟩
    · rw [lcgI_one] at c2
      exact .inr ⟨k + 1, Nat.succ_lt_succ c1, c2⟩
/-- the masks of a table that grows to 2,048 -/
def Mw (m : Nat) : Prop := m = 7 ∨ m = 31 ∨ m = 127 ∨ m = 511 ∨ m = 2047
def orbOk (m : Nat) : Bool := orb m (m + 1) 0 0 == 2 ^ (m + 1) - 1 && lcgI m 0 (m + 1) == 0
theorem orb7 : orbOk 7 = true := by decide +kernel
theorem orb31 : orbOk 31 = true := by decide +kernel
theorem orb127 : orbOk 127 = true := by decide +kernel
theorem orb511 : orbOk 511 = true := by decide +kernel
theorem orb2047 : orbOk 2047 = true := by decide +kernel
theorem Mw.orb {m : Nat} (h : Mw m) : orbOk m = true := by
  rcases h with e | e | e | e | e <;> subst e
  · exact orb7
  · exact orb31
  · exact orb127
  · exact orb511
  · exact orb2047
theorem lcgI_add (m i a : Nat) : ∀ k, lcgI m (lcgI m i a) k = lcgI m i (a + k)
  | 0 => rfl
  | k + 1 => congrArg (fun z => (z * 5 + 1) % (m + 1)) (lcgI_add m i a k)
theorem Mw.zero {m : Nat} (h : Mw m) {j : Nat} (hj : j ≤ m) : ∃ k, k ≤ m ∧ lcgI m 0 k = j := by
  have e := h.orb
  unfold orbOk at e
  rw [Bool.and_eq_true, beq_iff_eq] at e
  have b : (WR.orb m (m + 1) 0 0).testBit j = true := by
    rw [e.1, Nat.testBit_two_pow_sub_one, decide_eq_true_eq]
    omega
  rcases orb_spec m j _ _ _ b with c | ⟨k, c1, c2⟩
  · rw [Nat.zero_testBit] at c
    exact nomatch c
  · exact ⟨k, by omega, c2⟩
theorem Mw.any {m : Nat} (h : Mw m) {i j : Nat} (hi : i ≤ m) (hj : j ≤ m) : ∃ k, k ≤ m ∧ lcgI m i k = j := by
  obtain ⟨a, a1, a2⟩ := h.zero hi
  obtain ⟨b, b1, b2⟩ := h.zero hj
  have p : lcgI m 0 (m + 1) = 0 := by
    have e := h.orb
    unfold orbOk at e
    rw [Bool.and_eq_true, beq_iff_eq, beq_iff_eq] at e
    exact e.2
  by_cases c : a ≤ b
  · refine ⟨b - a, by omega, ?_⟩
    rw [← a2, lcgI_add, show a + (b - a) = b by omega, b2]
  · refine ⟨m + 1 - a + b, by omega, ?_⟩
    rw [← a2, lcgI_add, show a + (m + 1 - a + b) = (m + 1) + b by omega, ← lcgI_add, p, b2]
theorem Mw.runs {m : Nat} (hm : Mw m) (h : Int) {j : Nat} (hj : j ≤ m) : ∃ n, n ≤ m + 12 ∧ runI m (SetTable.bits h) n = j := by
  obtain ⟨k, k1, k2⟩ := hm.any (runI_le m (SetTable.bits h) 12) hj
  refine ⟨12 + k, by omega, ?_⟩
  rw [runI_tail (bits_lt h), k2]
theorem Mw.meets {m : Nat} (hm : Mw m) (h : Int) {j : Nat} (hj : j ≤ m) : ∃ k, k < 10 * SetTable.turns m ∧ way m h k = j := by
  obtain ⟨n, n1, n2⟩ := hm.runs h hj
  obtain ⟨k, k1, k2⟩ := run_nth m (SetTable.bits h) n
  refine ⟨k, by unfold SetTable.turns; omega, ?_⟩
  show (nth m (runAt m (SetTable.bits h % (m + 1)) (SetTable.bits h)) k).j = j
  rw [k2, ← n2]
  rfl
theorem way_in (m : Nat) (h : Int) (k : Nat) : way m h k ≤ m := by
  have s : SetTable.bits h % (m + 1) ≤ m := Nat.le_of_lt_succ (Nat.mod_lt _ (by omega))
  have r := runEnd_bd s
  have q := nth_in k (m := m) (runAt m (SetTable.bits h % (m + 1)) (SetTable.bits h)) (by
    show SetTable.bits h % (m + 1) + (SetTable.runEnd m (SetTable.bits h % (m + 1)) - SetTable.bits h % (m + 1)) ≤ m
    omega)
  exact Nat.le_trans (Nat.le_add_right _ _) q
theorem Mw.odd {m : Nat} (h : Mw m) : m % 2 = 1 := by rcases h with e | e | e | e | e <;> rw [e]
theorem Mw.le {m : Nat} (h : Mw m) : m ≤ 2047 := by rcases h with e | e | e | e | e <;> omega

/-! ### the table -/
structure TabW (t : SetTable) (n : Nat) : Prop where
  ris : Ris t.place.toList
  dm : t.dummies = #[]
  sz : t.place.size = n
  mok : Mw t.mask
variable {t : SetTable} {n : Nat}
theorem TabW.first (T : TabW t n) (hl : n ≤ t.mask) (h : Int) : ∃ K, K < 10 * SetTable.turns t.mask ∧ way t.mask h K ∉ t.place.toList ∧ ∀ k, k < K → way t.mask h k ∈ t.place.toList := by
  have e : t.place.toList.length < t.mask + 1 := by
    rw [Array.length_toList, T.sz]
    omega
  obtain ⟨j, j1, j2⟩ := st_missing _ _ e
  obtain ⟨k, k1, k2⟩ := T.mok.meets h (Nat.le_of_lt_succ j1)
  obtain ⟨K, a, b, c⟩ := st_least (p := fun z => way t.mask h z ∉ t.place.toList) k (by rw [k2]; exact j2)
  exact ⟨K, by omega, b, fun z hz => Classical.byContradiction (c z hz)⟩
theorem TabW.put (T : TabW t n) {j : Nat} (hj : j ∉ t.place.toList) : (t.put j).2 = SetTable.below t.place j ∧ SetTable.below t.place j ≤ n ∧ TabW (t.put j).1 (n + 1) ∧
    (t.put j).1.mask = t.mask ∧ (t.put j).1.led = t.led ∧ (t.put j).1.plain = t.plain ∧ (t.put j).1.fill = n + 1 := by
  obtain ⟨b1, _, _⟩ := below_cut T.ris j
  have hne : t.place[SetTable.below t.place j]? ≠ some j := fun e => hj (List.mem_of_getElem? (by rw [Array.getElem?_toList]; exact e))
  have hz : (t.put j).1.place.size = n + 1 := by
    rw [← Array.length_toList, put_place, len_ins _ (by rw [Array.length_toList]; exact b1), Array.length_toList, T.sz]
  refine ⟨rfl, ?_, ⟨?_, put_dm T.dm j, hz, T.mok⟩, rfl, rfl, rfl, ?_⟩
  · rw [← T.sz]
    exact b1
  · exact ris_insert T.ris hne
  · show (t.put j).1.place.size + (t.put j).1.dummies.size = n + 1
    rw [hz, put_dm T.dm j]
    rfl

/-! ### the table laid anew -/
theorem free_met {m : Nat} (hm : Mw m) (owner : Array (Option Nat)) (h : Int) {j : Nat} (hj : j ≤ m) (hf : oAt owner j = none) :
    ∃ z, SetTable.layClean.free m owner (SetTable.turns m) (SetTable.bits h % (m + 1)) (SetTable.bits h) = some z ∧ z ≤ m ∧ oAt owner z = none := by
  obtain ⟨n, n1, n2⟩ := hm.runs h hj
  have e : way m h (off m (SetTable.bits h % (m + 1)) (SetTable.bits h) n) = j := by
    show (nth m (runAt m (SetTable.bits h % (m + 1)) (SetTable.bits h)) (off m (SetTable.bits h % (m + 1)) (SetTable.bits h) n)).j = j
    rw [nth_off, itL_run, ← n2]
    rfl
  obtain ⟨K, a, b, c⟩ := st_least (p := fun z => oAt owner (way m h z) = none) _ (by rw [e]; exact hf)
  refine ⟨way m h K, free_spec m owner _ n _ _ K (by unfold SetTable.turns; omega) a (fun k hk => ?_) (by
    show (oAt owner (way m h K)).isNone = true
    rw [show oAt owner (way m h K) = none from b]
    rfl), way_in _ _ _, b⟩
  have q := c k hk
  show (oAt owner (way m h k)).isNone = false
  cases z : oAt owner (way m h k) with
  | none => exact absurd z q
  | some _ => rfl
structure OwnW (m n : Nat) (owner : Array (Option Nat)) : Prop where
  sz : owner.size = m + 1
  all : ∀ k, k < n → ∃ j, j ≤ m ∧ oAt owner j = some k
  ps : ∃ ps : List Nat, ps.length = n ∧ ∀ j, j ≤ m → oAt owner j ≠ none → j ∈ ps
theorem OwnW.step {m n : Nat} (hm : Mw m) {owner : Array (Option Nat)} (W : OwnW m n owner) (hl : n ≤ m) (h : Int) :
    ∃ j, SetTable.layClean.free m owner (SetTable.turns m) (SetTable.bits h % (m + 1)) (SetTable.bits h) = some j ∧ OwnW m (n + 1) (owner.setIfInBounds j (some n)) := by
  obtain ⟨ps, p1, p2⟩ := W.ps
  obtain ⟨j, j1, j2⟩ := st_missing ps (m + 1) (by omega)
  have free : oAt owner j = none := Classical.byContradiction fun c => j2 (p2 j (by omega) c)
  obtain ⟨z, z1, z2, z3⟩ := free_met hm owner h (Nat.le_of_lt_succ j1) free
  have zs : z < owner.size := by rw [W.sz]; omega
  refine ⟨z, z1, by rw [Array.size_setIfInBounds, W.sz], fun k hk => ?_, z :: ps, by rw [List.length_cons, p1], fun i hi c => ?_⟩
  · by_cases e : k = n
    · exact ⟨z, z2, by rw [oAt_set_self _ zs, e]⟩
    · obtain ⟨i, i1, i2⟩ := W.all k (by omega)
      refine ⟨i, i1, ?_⟩
      rw [oAt_set_ne _ fun e => by rw [e, z3] at i2; exact nomatch i2]
      exact i2
  · by_cases e : i = z
    · rw [e]
      exact List.mem_cons_self
    · rw [oAt_set_ne _ e] at c
      exact List.mem_cons_of_mem _ (p2 i hi c)
theorem OwnW.fold {m : Nat} (hm : Mw m) : ∀ (rest : List Int) (n : Nat) (owner : Array (Option Nat)), OwnW m n owner → n + rest.length ≤ m →
    ∃ owner', rest.foldl (stepF m) (some (owner, n)) = some (owner', n + rest.length) ∧ OwnW m (n + rest.length) owner' := by
  intro rest
  induction rest with
  | nil => intro n owner W _; exact ⟨owner, rfl, W⟩
  | cons h rest ih =>
    intro n owner W hl
    rw [List.length_cons] at hl
    obtain ⟨j, e, W'⟩ := W.step hm (by omega) h
    obtain ⟨o', f, W2⟩ := ih _ _ W' (by omega)
    rw [List.length_cons, show n + (rest.length + 1) = n + 1 + rest.length by omega]
    exact ⟨o', by rw [List.foldl_cons, stepF_some e]; exact f, W2⟩
theorem relaid_w (t : SetTable) {hs : Array Int} {wanted M : Nat} (hw : SetTable.sizeAbove wanted - 1 = M) (hM : Mw M) (hn : hs.size ≤ M) :
    ∃ t' order, t.relaid hs wanted = some (t', order) ∧ order.toList.Perm (List.range hs.size) ∧ TabW t' hs.size ∧ t'.mask = M ∧ t'.led = t.led ∧ t'.plain = t.plain := by
  have W0 : OwnW M 0 (Array.replicate (M + 1) none) := ⟨by simp, fun k hk => absurd hk (Nat.not_lt_zero _), [], rfl, fun j hj e => absurd (oAt_init hj) e⟩
  obtain ⟨owner, f, W⟩ := OwnW.fold hM hs.toList 0 _ W0 (by rw [Array.length_toList]; omega)
  rw [Array.length_toList, Nat.zero_add] at W
  have e : t.relaid hs wanted = some (tabOf t M owner, ((liveOf M owner).map (·.2)).toArray) := by
    rw [relaid_eq, hw, layClean_eq, f]
    rfl
  have rr := ris_live (fun j => owner.getD j none) (List.range (M + 1)) List.pairwise_lt_range
  have ris : Ris ((liveOf M owner).map (·.1)) := rr.1
  have len : (liveOf M owner).length = hs.size := by
    obtain ⟨ps, p1, p2⟩ := W.ps
    have nd : ((liveOf M owner).map (·.1)).Nodup := List.Pairwise.imp (fun h => Nat.ne_of_lt h) ris
    have a := nat_nodup_len ((liveOf M owner).map (·.1)) ps nd fun x hx => by
      obtain ⟨⟨y, k⟩, h1, rfl⟩ := List.mem_map.mp hx
      obtain ⟨b1, b2⟩ := (mem_live W.sz).1 h1
      exact p2 y b1 (by rw [b2]; exact nofun)
    have b := nat_nodup_len (List.range hs.size) ((liveOf M owner).map (·.2)) List.nodup_range fun k hk => by
      obtain ⟨j, b1, b2⟩ := W.all k (List.mem_range.mp hk)
      exact List.mem_map.mpr ⟨(j, k), (mem_live W.sz).2 ⟨b1, b2⟩, rfl⟩
    rw [List.length_map, p1] at a
    rw [List.length_map, List.length_range] at b
    omega
  refine ⟨_, _, e, perm_range hs.size _ ?_ fun k hk => ?_, ⟨ris, rfl, ?_, hM⟩, rfl, rfl, rfl⟩
  · show ((liveOf M owner).map (·.2)).length = _
    rw [List.length_map, len]
  · obtain ⟨j, b1, b2⟩ := W.all k hk
    exact List.mem_map.mpr ⟨(j, k), (mem_live W.sz).2 ⟨b1, b2⟩, rfl⟩
  · show ((liveOf M owner).map (·.1)).toArray.size = _
    rw [List.size_toArray, List.length_map, len]
theorem grow5 : SetTable.sizeAbove (SetTable.grown 5) = 32 := by decide +kernel
theorem grow19 : SetTable.sizeAbove (SetTable.grown 19) = 128 := by decide +kernel
theorem grow77 : SetTable.sizeAbove (SetTable.grown 77) = 512 := by decide +kernel
theorem grow307 : SetTable.sizeAbove (SetTable.grown 307) = 2048 := by decide +kernel
end WR

-- part: WRSet2
set_option Elab.async false
set_option linter.all false
set_option maxRecDepth 100000
set_option maxHeartbeats 4000000
/-! A set of distinct tuples of ints: search, adding, set(xs), len(set(xs)). -/
namespace WR
open PySem PySem.Spec PyProof.Rows L2
section
variable {P : Program} {w : World} {A : Around} {E : Value → Shared → Prop} {s : Shared}
structure SetW (P : Program) (w : World) (h : Heap) (a : Addr) (L : List (Addr × List Int)) (es : Array (Int × Value)) (ep : Nat) (t : SetTable) : Prop where
  ob : ∃ o, h.get? a = some o ∧ o.ExactSet ∧ o.data = .set es ep t
  rows : es.toList = rowsOf P w L
  tab : TabW t L.length
  tup : ∀ q ∈ L, IsT P w h q.2 q.1
  plain : t.plain = true
  led : w.params.followText "set-order" = true ∨ t.led = true
  room : L.length * 5 < t.mask * 3
  few : L.length ≤ 1100
variable {a : Addr} {L : List (Addr × List Int)} {es : Array (Int × Value)} {ep : Nat} {t : SetTable}
theorem rows_size (h : es.toList = rowsOf P w L) : es.size = L.length := by
  rw [← Array.length_toList, h]
  exact List.length_map _
theorem fits_w (T : TabW t L.length) (hz : es.size = L.length) (hl : L.length ≤ t.mask) : t.fits es.size = true := by
  unfold SetTable.fits SetTable.fill
  rw [T.dm, T.sz, hz, Bool.and_eq_true, beq_iff_eq, decide_eq_true_eq]
  exact ⟨rfl, hl⟩
theorem SetW.fits (R : SetW P w s.heap a L es ep t) : t.fits es.size = true := fits_w R.tab (rows_size R.rows) (by have := R.room; omega)
theorem row_at (h : es.toList = rowsOf P w L) {i : Nat} {q : Addr × List Int} (e : L[i]? = some q) : es[i]? = some (thash P w q.2, Value.ref q.1) := by
  rw [← Array.getElem?_toList, h, rowsOf, List.getElem?_map, e]
  rfl
theorem probe_dm (m : Nat) : ∀ (n : Nat) (p : SetTable.Probe), p.dummy = none → (nth m p n).dummy = none
  | 0, _, h => h
  | n + 1, p, h => probe_dm m n (adv m p) (by unfold adv; split <;> exact h)
abbrev start (m : Nat) (h : Int) : SetTable.Probe := runAt m (SetTable.bits h % (m + 1)) (SetTable.bits h)
/-- the search for a key that isn't there -/
theorem search_w (R : SetW P w s.heap a L es ep t) {x : Addr} {k : List Int} (hx : IsT P w s.heap k x) (hu : A.units < cLine) (hnew : k ∉ L.map (·.2)) {K : Nat} (hKf : K < 10 * SetTable.turns t.mask)
    (hK : way t.mask (thash P w k) K ∉ t.place.toList) (hKb : ∀ c, c < K → way t.mask (thash P w k) c ∈ t.place.toList) {Q : SetFound → Shared → Prop} (hQ : Q (.free (way t.mask (thash P w k) K) false) s) :
    ∀ (f c : Nat) (stand : Option SetTable.Probe), stand.getD (t.probeStart (thash P w k)) = nth t.mask (start t.mask (thash P w k)) c → c ≤ K → K - c < f → wpAny (model P w) A (setSearchFrom a (.ref x) (thash P w k) true f stand) Q E s := by
  intro f
  induction f with
  | zero => intro c _ _ _ h; exact absurd h (Nat.not_lt_zero _)
  | succ f ih =>
    intro c stand e hc hf
    obtain ⟨o, ho, hex, hd⟩ := R.ob
    have gw : ¬ t.gaveWay = true := by
      unfold SetTable.gaveWay
      rw [R.tab.mok.odd]
      decide
    rw [setSearchFrom_succ]
    refine wpAny_bind (wpAny_setState_of ho hd R.fits (wp_if_neg gw ?_))
    have j_at : ∀ z, (nth t.mask (nth t.mask (start t.mask (thash P w k)) c) z).j = way t.mask (thash P w k) (c + z) := fun z => congrArg SetTable.Probe.j (nth_add t.mask c _ z).symm
    have sp := go_spec t R.tab.ris R.tab.dm (fun i => (es[i]?.map (·.1)).getD 0) (thash P w k) (10 * SetTable.turns t.mask) (K - c) (nth t.mask (start t.mask (thash P w k)) c) (probe_dm _ _ _ rfl) (by omega)
      (fun z hz => by rw [j_at]; exact hKb _ (by omega)) (by rw [j_at, show c + (K - c) = K by omega]; exact hK)
    rcases sp with ⟨z, i, hz, hi, _, _, pr⟩ | ⟨_, pr⟩
    · have pr2 : t.probe (fun i => (es[i]?.map (·.1)).getD 0) (thash P w k) (stand.getD (t.probeStart (thash P w k))) = some (.candidate (way t.mask (thash P w k) (c + z)) i (nth t.mask (start t.mask (thash P w k)) (c + (z + 1)))) := by
        rw [e, ← j_at, nth_add t.mask c _ (z + 1)]
        exact pr
      rw [pr2]
      rw [j_at] at hi
      have il : i < L.length := by
        have h1 := (List.getElem?_eq_some_iff.mp hi).1
        rw [Array.length_toList, R.tab.sz] at h1
        exact h1
      obtain ⟨q, hq⟩ : ∃ q, L[i]? = some q := ⟨_, List.getElem?_eq_getElem il⟩
      have hm : q ∈ L := List.mem_of_getElem? hq
      have ne : q.2 ≠ k := fun c => hnew (c ▸ List.mem_map_of_mem hm)
      have sl : t.slot (way t.mask (thash P w k) (c + z)) = .live i := slot_live R.tab.ris hi
      have go : wpAny (model P w) A (searchRest a (.ref x) (thash P w k) true f es t (way t.mask (thash P w k) (c + z)) i (nth t.mask (start t.mask (thash P w k)) (c + (z + 1)))) Q E s := by
        unfold searchRest
        rw [row_at R.rows hq]
        refine wpAny_bind (wpAny_holding (wpAny_eqBool_tuple hu (R.tup q hm) hx (wpAny_bind (wpAny_setState_of ho hd R.fits ?_))))
        dsimp only
        refine wp_if_neg (by simp [ne]) ?_
        rw [sameMem]
        dsimp only
        simp only [if_true, sl, row_at R.rows hq]
        refine wpAny_bind (wpAny_isSame_ref_self (wpAny_bind (wpAny_pure ?_)))
        simp only [if_true]
        refine wp_if_neg (by simp [ne]) ?_
        exact ih (c + (z + 1)) _ rfl (by omega) (by omega)
      dsimp only
      by_cases hl : t.led = true
      · exact wp_if_neg (by simp [hl]) go
      · refine wp_if_pos (by simp [hl]) (wpAny_bind (seen_tup hx (fun y hy => ?_) (wp_if_neg (by decide) go)))
        obtain ⟨r, hr, er⟩ := List.mem_map.mp hy
        have hr2 : r ∈ es.toList := by
          have q := (show r ∈ es ∧ r.1 = thash P w k by simpa using hr).1
          simpa using q
        rw [R.rows] at hr2
        obtain ⟨u, hu1, hu2⟩ := List.mem_map.mp hr2
        exact ⟨u.2, u.1, by rw [← er, ← hu2], R.tup u hu1⟩
    · have pr2 : t.probe (fun i => (es[i]?.map (·.1)).getD 0) (thash P w k) (stand.getD (t.probeStart (thash P w k))) = some (.empty (way t.mask (thash P w k) K) none) := by
        rw [e]
        refine Eq.trans pr ?_
        rw [j_at, show c + (K - c) = K by omega]
      rw [pr2]
      exact wpAny_pure hQ
/-- laid anew -/
theorem relay_w {o : Obj} (ho : s.heap.get? a = some o) (hex : o.ExactSet) (hd : o.data = .set es ep t) (hr : es.toList = rowsOf P w L) (T : TabW t L.length) (hl : L.length ≤ t.mask) (tup : ∀ q ∈ L, IsT P w s.heap q.2 q.1) (pl : t.plain = true)
    (ld : w.params.followText "set-order" = true ∨ t.led = true) (few : L.length ≤ 1100) {M : Nat} (hw : SetTable.sizeAbove (SetTable.grown L.length) = M + 1) (hM : Mw M) (hn : L.length * 5 < M * 3) {Q : Unit → Shared → Prop}
    (hQ : ∀ h' L' es' ep' t', Heap.SameBut a s.heap h' → SetW P w h' a L' es' ep' t' → L'.Perm L → Q () { s with heap := h' }) : wpAny (model P w) A (setRelay a (SetTable.grown L.length)) Q E s := by
  have hz := rows_size hr
  have hM' := hM.le
  obtain ⟨t', order, r1, r2, r3, r4, r5, r6⟩ := relaid_w t (hs := es.map (·.1)) (by rw [hw, Nat.add_sub_cancel]) hM (by rw [Array.size_map, hz]; omega)
  rw [Array.size_map, hz] at r2 r3
  obtain ⟨L2, l1, l2, _⟩ := order_rows L es order hr r2
  have hz2 : (order.filterMap (es[·]?)).size = L.length := (rows_size l1).trans l2.length_eq
  rw [setRelay_eq]
  refine wpAny_bind (wpAny_setState_of ho hd (fits_w T hz hl) (wp_if_neg (by rw [hw, sizeLine_eq]; omega) ?_))
  rw [r1]
  dsimp only
  refine wpAny_bind (wp_if_neg (by rw [hz2, hz]; simp) (wpAny_pure (wpAny_storeSet_of ho hd ?_ (by rw [hz2, sizeLine_eq]; omega))))
  have sb : Heap.SameBut a s.heap (s.heap.update a (Obj.putSet (order.filterMap (es[·]?)) t')) := Heap.SameBut.update ..
  refine hQ _ L2 _ (ep + 1) t' sb ⟨⟨_, store_at ho hd, ⟨hex.1, hex.2.1, hex.2.2⟩, rfl⟩, l1, by rw [l2.length_eq]; exact r3, fun q hq => isT_same (tup q (l2.mem_iff.mp hq)) ho hd sb, r6.trans pl, by rw [r5]; exact ld, ?_, by rw [l2.length_eq]; exact few⟩ l2
  rw [l2.length_eq, r4]
  exact hn
/-- a new key is put in -/
theorem add_w (R : SetW P w s.heap a L es ep t) {x : Addr} {k : List Int} (hx : IsT P w s.heap k x) (hu : A.units < cLine) (hnew : k ∉ L.map (·.2)) (few : L.length + 1 ≤ 1100) {Q : Bool → Shared → Prop}
    (hQ : ∀ h' L' es' ep' t', Heap.SameBut a s.heap h' → SetW P w h' a L' es' ep' t' → L'.Perm ((x, k) :: L) → Q true { s with heap := h' }) : wpAny (model P w) A (setAddHashed a (.ref x) (thash P w k)) Q E s := by
  obtain ⟨o, ho, hex, hd⟩ := R.ob
  have room := R.room
  obtain ⟨K, k1, k2, k3⟩ := R.tab.first (by omega) (thash P w k)
  unfold setAddHashed
  refine wpAny_holding ?_
  rw [show (100000 : Nat) = 99999 + 1 from rfl, setAddHashedIn_succ]
  refine wpAny_bind (wpAny_setState_of ho hd R.fits (wp_if_neg (by simp [byScan, Value.scannable]) (wpAny_bind ?_)))
  unfold setSearch
  have big : 10 * SetTable.turns t.mask ≤ 30000 := by
    have := R.tab.mok.le
    unfold SetTable.turns
    omega
  refine search_w R hx hu hnew k1 k2 k3 ?_ 100000 0 none rfl (Nat.zero_le _) (by omega)
  dsimp only
  refine wpAny_bind (wpAny_setState_of ho hd R.fits ?_)
  obtain ⟨q1, q2, q3, q4, q5, q6, q7⟩ := R.tab.put k2
  have pl1 := q6.trans R.plain
  generalize t.put (way t.mask (thash P w k) K) = pt at q1 q3 q4 q5 q6 q7 pl1 ⊢
  obtain ⟨t1, p⟩ := pt
  dsimp only at q1 q3 q4 q5 q6 q7 pl1 ⊢
  have hin : (SetTable.insertAt es p (thash P w k, Value.ref x)).toList = rowsOf P w (L.take p ++ (x, k) :: L.drop p) := by rw [SetTable.toList_insertAt, rows_put, R.rows]
  have pm := put_perm L p (x, k)
  have hes := (rows_size hin).trans pm.length_eq
  have hlen : (L.take p ++ (x, k) :: L.drop p).length = L.length + 1 := pm.length_eq
  rw [List.length_cons] at hes
  first
    | (refine wpAny_bind ?_; refine wp_if_pos pl1 ?_; refine hashBy_tup hx ?_)
    | refine wp_if_pos pl1 (wpAny_bind (hashBy_tup hx ?_))
  simp only [if_true]
  generalize SetTable.insertAt es p (thash P w k, Value.ref x) = es1 at hin hes ⊢
  generalize L.take p ++ (x, k) :: L.drop p = L1 at pm hlen hin
  refine wpAny_bind (wpAny_storeSet_of ho hd ?_ (by rw [hes, sizeLine_eq]; omega))
  have sb : Heap.SameBut a s.heap (s.heap.update a (Obj.putSet es1 t1)) := Heap.SameBut.update ..
  have ho1 := store_at (es' := es1) (t' := t1) ho hd
  generalize s.heap.update a (Obj.putSet es1 t1) = h1 at sb ho1 ⊢
  have tup1 : ∀ q ∈ L1, IsT P w h1 q.2 q.1 := fun q hq => by
    rcases List.mem_cons.mp (pm.mem_iff.mp hq) with e | hq
    · subst e
      exact isT_same hx ho hd sb
    · exact isT_same (R.tup q hq) ho hd sb
  have ld1 : w.params.followText "set-order" = true ∨ t1.led = true := by rw [q5]; exact R.led
  have T1 : TabW t1 L1.length := by rw [hlen]; exact q3
  have ex1 : ({ o with data := .set es1 (ep + 1) t1 } : Obj).ExactSet := ⟨hex.1, hex.2.1, hex.2.2⟩
  by_cases hf : t1.tooFull = true
  · have full : (L.length + 1) * 5 ≥ t1.mask * 3 := by
      have h := hf
      unfold SetTable.tooFull at h
      rw [decide_eq_true_eq, q7] at h
      exact h
    have go : ∀ M, SetTable.sizeAbove (SetTable.grown (L.length + 1)) = M + 1 → Mw M → (L.length + 1) * 5 < M * 3 →
        wpAny (model P w) A (setRelay a (SetTable.grown (es.size + 1))) (fun _ s' => Q true s') E { s with heap := h1 } := fun M m1 m2 m3 => by
      rw [rows_size R.rows, ← hlen]
      refine relay_w (s := { s with heap := h1 }) ho1 ex1 rfl hin T1 (by rw [hlen, q4]; omega) tup1 pl1 ld1 (by rw [hlen]; exact few) (by rw [hlen]; exact m1) m2 (by rw [hlen]; exact m3) fun h2 L2 es2 ep2 t2 sb2 R2 pm2 => ?_
      exact hQ h2 L2 es2 ep2 t2 (sb.trans sb2) R2 (pm2.trans pm)
    have all : wpAny (model P w) A (setRelay a (SetTable.grown (es.size + 1))) (fun _ s' => Q true s') E { s with heap := h1 } := by
      rw [q4] at full
      rcases R.tab.mok with e | e | e | e | e <;> rw [e] at full room
      · exact go 31 (by rw [show L.length + 1 = 5 by omega, grow5]) (by unfold Mw; omega) (by omega)
      · exact go 127 (by rw [show L.length + 1 = 19 by omega, grow19]) (by unfold Mw; omega) (by omega)
      · exact go 511 (by rw [show L.length + 1 = 77 by omega, grow77]) (by unfold Mw; omega) (by omega)
      · exact go 2047 (by rw [show L.length + 1 = 307 by omega, grow307]) (by unfold Mw; omega) (by omega)
      · omega
    first
      | exact wpAny_bind (wp_if_pos (by simp [hf]) (wpAny_mono all (fun _ _ q => wpAny_pure q) fun _ _ q => q))
      | exact wp_if_pos (by simp [hf]) (wpAny_bind (wpAny_mono all (fun _ _ q => wpAny_pure q) fun _ _ q => q))
  · have q : Q true { s with heap := h1 } := by
      refine hQ h1 L1 es1 (ep + 1) t1 sb ⟨⟨_, ho1, ex1, rfl⟩, hin, T1, tup1, pl1, ld1, ?_, by rw [hlen]; exact few⟩ pm
      have h := hf
      unfold SetTable.tooFull at h
      rw [decide_eq_true_eq, q7] at h
      rw [hlen]
      omega
    first
      | exact wp_if_neg (by simp [hf]) (wpAny_pure q)
      | exact wpAny_bind (wp_if_neg (by simp [hf]) (wpAny_pure (wpAny_pure q)))
end
end WR

-- part: WRSet3
set_option Elab.async false
set_option linter.all false
set_option maxRecDepth 100000
set_option maxHeartbeats 4000000
/-! set(xs) of distinct tuples of ints, and its length. -/
namespace WR
open PySem PySem.Spec PyProof.Rows L2
section
variable {P : Program} {w : World} {A : Around} {E : Value → Shared → Prop} {s : Shared}
abbrev Kept (h h' : Heap) : Prop := ∀ b o, h.get? b = some o → h'.get? b = some o
theorem SetW.kept {h h' : Heap} {a : Addr} {L : List (Addr × List Int)} {es : Array (Int × Value)} {ep : Nat} {t : SetTable} (R : SetW P w h a L es ep t) (ha : ∀ o, h.get? a = some o → h'.get? a = some o) (ht : ∀ q ∈ L, IsT P w h' q.2 q.1) : SetW P w h' a L es ep t :=
  ⟨by obtain ⟨o, ho, r⟩ := R.ob; exact ⟨o, ha o ho, r⟩, R.rows, R.tab, ht, R.plain, R.led, R.room, R.few⟩
theorem upd_w {I : Addr} {fp wr : List Addr} {G : Array GenState → Array GenState → Prop} {n : Nat} {Pv : Nat → Value → Prop} {St : Nat → Shared → Prop} {R : Result → Shared → Prop} (W : WalksS P w A.in1 I fp wr G n Pv St) (S : Addr) (hSf : S ∉ fp)
    (ks : List (Addr × List Int)) (hn : n = ks.length) (few : ks.length ≤ 1100) (nd : (ks.map (·.2)).Nodup) (hval : ∀ i v, Pv i v → ∃ q, ks[i]? = some q ∧ v = .ref q.1) (h0 : Heap) (hk : ∀ q ∈ ks, IsT P w h0 q.2 q.1) (hS0 : h0.get? S = none)
    (hw0 : ∀ b ∈ wr, h0.get? b = none) (hu : A.in1.units < cLine) :
    ∀ (d i : Nat) (s : Shared), n - i = d → i ≤ n → St i s → Kept h0 s.heap → (∃ L es ep t, SetW P w s.heap S L es ep t ∧ L.Perm (ks.take i)) →
      (∀ s' L es ep t, Moved (S :: wr) G s s' → SetW P w s'.heap S L es ep t → L.Perm ks → Kept h0 s'.heap → R (.ok (.ret .none)) s') → codeAny (model P w) A (.builtin "set.update.loop" ⟨[.ref S, .ref I], []⟩) R s := by
  have nw : S ∉ wr := fun c => hSf (W.sub _ c)
  have up : ∀ b ∈ wr, b ∈ S :: wr := fun b c => List.mem_cons_of_mem _ c
  have on : ∀ {s s' : Shared}, Moved wr G s s' → Kept h0 s.heap → Kept h0 s'.heap := fun m k b o e => m.heap b o (fun c => by rw [hw0 b c] at e; exact nomatch e) (k b o e)
  intro d
  induction d with
  | zero =>
    intro i s hd hi st kp ⟨L, es, ep, t, RS, pm⟩ hR
    obtain rfl : i = n := by omega
    refine codeAny_builtin F.entry_set_update_loop ?_
    rw [Around.under_plainId F.plain_set_update_loop _]
    refine wpAny_bind (W.done s _ _ st fun s' m => ?_)
    have pm' : L.Perm ks := by rw [hn, List.take_length] at pm; exact pm
    exact wpAny_pure (hR s' L es ep t (m.mono up) (RS.kept (fun o e => m.heap S o nw e) fun q hq => isT_keep (hk q (pm'.mem_iff.mp hq)) (on m kp)) pm' (on m kp))
  | succ d ih =>
    intro i s hd hi st kp ⟨L, es, ep, t, RS, pm⟩ hR
    have lt : i < n := by omega
    refine codeAny_builtin F.entry_set_update_loop ?_
    rw [Around.under_plainId F.plain_set_update_loop _]
    refine wpAny_bind (W.item i s _ _ lt st fun v s' hP st' m => ?_)
    obtain ⟨q, hq, rfl⟩ := hval i v hP
    have kp' := on m kp
    have sub : ∀ r ∈ L, r ∈ ks := fun r hr => List.mem_of_mem_take (pm.mem_iff.mp hr)
    have RS' : SetW P w s'.heap S L es ep t := RS.kept (fun o e => m.heap S o nw e) fun r hr => isT_keep (hk r (sub r hr)) kp'
    have hx : IsT P w s'.heap q.2 q.1 := isT_keep (hk q (List.mem_of_getElem? hq)) kp'
    have fresh : q.2 ∉ L.map (·.2) := fun c => by
      have c1 := (pm.map (·.2)).mem_iff.mp c
      rw [List.map_take] at c1
      obtain ⟨j, j1, j2⟩ := List.getElem_of_mem c1
      rw [List.length_take] at j1
      rw [List.getElem_take] at j2
      have j3 : j < (ks.map (·.2)).length := by omega
      have i3 : i < (ks.map (·.2)).length := by rw [List.length_map]; omega
      have e : (ks.map (·.2))[i]'i3 = q.2 := by
        rw [List.getElem_map, (List.getElem?_eq_some_iff.mp hq).2]
      exact absurd (j2.trans e.symm) (List.pairwise_iff_getElem.mp nd j i j3 i3 (by omega))
    refine wpAny_bind (wpAny_holding ?_)
    unfold setAdd
    refine wpAny_holding (wpAny_bind (wpAny_pyHash_tuple hu hx ?_))
    have len : L.length = i := by rw [pm.length_eq, List.length_take]; omega
    refine add_w (s := { s' with toks := s'.toks + (q.2.length + 1) }) RS' hx hu fresh (by omega) fun h' L' es' ep' t' sb R' pm' => ?_
    have kp2 : Kept h0 h' := fun b o e => (sb.2 b fun z => by rw [z, hS0] at e; exact nomatch e).trans (kp' b o e)
    have pm2 : L'.Perm (ks.take (i + 1)) := by
      rw [take_next hq]
      exact pm'.trans ((pm.cons _).trans (List.perm_append_singleton _ _).symm)
    refine wpAny_pure ⟨plainId_quiet F.plain_set_update_loop _, ih (i + 1) _ (by omega) lt (W.frame _ s' _ _ st' (Nat.le_add_right _ _) fun b hb o e => (sb.2 b fun z => hSf (z ▸ hb)).trans e) kp2 ⟨L', es', ep', t', R', pm2⟩
      fun s'' L2 es2 ep2 t2 m2 R2 p2 k2 => hR s'' L2 es2 ep2 t2 (Moved.trans W.gtrans ((m.mono up).then_heap (Nat.le_add_right _ _) fun b o hb e => (sb.2 b fun z => hb (z ▸ List.mem_cons_self)).trans e) m2) R2 p2 k2⟩

abbrev freshSet (w : World) : Obj := { cls := .type "set", dict := none, data := .set #[] 0 (.fresh 0 0 (!w.params.followText "set-order")) }
theorem setW_new {h : Heap} {a : Addr} (ho : h.get? a = some (freshSet w)) : SetW P w h a [] #[] 0 (.fresh 0 0 (!w.params.followText "set-order")) :=
  ⟨⟨_, ho, ⟨rfl, rfl, rfl⟩, rfl⟩, rfl, ⟨List.Pairwise.nil, rfl, rfl, .inl rfl⟩, nofun, rfl, by
    show _ ∨ (!w.params.followText "set-order") = true
    cases w.params.followText "set-order"
    · exact .inr rfl
    · exact .inl rfl, by show 0 * 5 < 7 * 3; decide, Nat.zero_le _⟩
set_option maxHeartbeats 8000000 in
theorem call_set_w {l : Addr} {items : Array Value} (ks : List (Addr × List Int)) {Q : Value → Shared → Prop} (hh : A.handled = none) (hl : s.heap.IsList l items) (hit : items.toList = ks.map fun q => Value.ref q.1) (hk : ∀ q ∈ ks, IsT P w s.heap q.2 q.1)
    (few : ks.length ≤ 1100) (nd : (ks.map (·.2)).Nodup) (hu : A.units + 3 < cLine)
    (h : ∀ (h' : Heap) (tk : Nat) L es ep t, SetW P w h' s.heap.objs.size L es ep t → L.Perm ks → Kept s.heap h' → Q (.ref s.heap.objs.size) { s with heap := h', toks := tk }) : wpAny (model P w) A (call (.type "set") [.ref l]) Q E s := by
  have hz : items.size = ks.length := by rw [← Array.length_toList, hit]; exact List.length_map _
  obtain ⟨c0, tl0, hmro⟩ := F.called_set.mro
  have f1 := F.called_set.made
  have f2 := F.called_set.sub
  have f3 := F.called_set.notType
  have f4 := F.called_set.canCreate
  have f5 := F.typeCall_set_1 (.ref l)
  refine wpAny_call (codeAny_of_tree (wpAny_pure ⟨Code.quiet_builtin _ (by decide +kernel), codeAny_builtin F.entry_type_call ?_⟩))
  rw [Around.under_plain (weight_type_call_type "set" [.ref l] []) rfl]
  repeat (any_goals (first | assumption | wp_step))
  refine codeAny_mono (code_set_led1 (.ref l) (E := E) (Q₁ := fun v s₁ => v = .ref s.heap.objs.size ∧ s₁ = { s with heap := s.heap.push (freshSet w) }) ⟨rfl, rfl⟩) fun r s₁ hr => ?_
  rcases r with e | fl
  · exact hr
  rcases fl with _ | _ | _ | v <;> try exact hr.elim
  obtain ⟨rfl, rfl⟩ := hr
  have hS : (s.heap.push (freshSet w)).get? s.heap.objs.size = some (freshSet w) := Heap.get?_push_size _ rfl
  have hT : Shared.TypeIs { s with heap := s.heap.push (freshSet w) } (.ref s.heap.objs.size) "set" := ⟨_, hS, rfl⟩
  have f6 := F.called_set.init.lookup
  have f7 := F.called_set.init.bind (.ref s.heap.objs.size)
  repeat (any_goals (first | assumption | wp_step))
  refine codeAny_mono (codeAny_call_builtin (R := wants (fun r s₂ => r = .none ∧ ∃ h' tk L es ep t, s₂ = { s with heap := h', toks := tk } ∧ SetW P w h' s.heap.objs.size L es ep t ∧ L.Perm ks ∧ Kept s.heap h') E)
    F.called_set.init.plain F.entry_set_init (check_set_init_1 hT ?_)) fun r₂ s₂ hr₂ => ?_
  · obtain ⟨⟨oc, od, odt, osl⟩, hol, hcl, nl, hdl⟩ := hl
    simp only at hcl hdl
    subst hcl; subst hdl
    have hl0 : s.heap.IsList l items := ⟨_, hol, rfl, nl, rfl⟩
    have hol' : (s.heap.push (freshSet w)).get? l = some { cls := .type "list", dict := od, data := .seq items nl, slots := osl } := Heap.get?_push_of_some _ hol
    have g1 := F.sub_list_set
    have g2 := F.sub_list_frozenset
    have g3 : (Value.type "list" == Value.type "dict") = false := by decide
    have hl1 : (s.heap.push (freshSet w)).IsList l items := ⟨_, hol', rfl, nl, rfl⟩
    unfold Builtin.«set.__init__» noKeywords Builtin.Frozenset.updateFrom
    generalize hPI : pyIter = PI
    wp_walk
    subst hPI
    refine wpAny_pyIter_list hl1 (wpAny_bind (wpAny_runValue ?_))
    have lt : l < s.heap.objs.size := Heap.lt_size hol
    have h3 : A.in1.in1.in1.handled = none := by simp [hh]
    have z1 : (s.heap.push (freshSet w)).objs.size = s.heap.objs.size + 1 := Heap.size_push ..
    have hne : l ≠ (s.heap.push (freshSet w)).objs.size := by rw [z1]; exact Nat.ne_of_lt (Nat.lt_succ_of_lt lt)
    have off : s.heap.objs.size ∉ [(s.heap.push (freshSet w)).objs.size, l] := by
      rw [z1]
      simp only [List.mem_cons, List.not_mem_nil, or_false, not_or]
      exact ⟨Nat.ne_of_lt (Nat.lt_succ_self _), Nat.ne_of_gt lt⟩
    have hval : ∀ (i : Nat) (v : Value), items[i]? = some v → ∃ q, ks[i]? = some q ∧ v = .ref q.1 := fun i v hv => by
      rw [← Array.getElem?_toList, hit, List.getElem?_map] at hv
      obtain ⟨q, q1, q2⟩ := Option.map_eq_some_iff.mp hv
      exact ⟨q, q1, q2.symm⟩
    have none_of : ∀ b, s.heap.objs.size ≤ b → s.heap.get? b = none := fun b hb => by
      cases q : s.heap.get? b with
      | none => rfl
      | some o => exact absurd (Nat.lt_of_lt_of_le (Heap.lt_size q) hb) (Nat.lt_irrefl _)
    refine upd_w ((Walks.list h3 _ l hne items).toS) s.heap.objs.size off ks hz few nd hval s.heap hk (none_of _ (Nat.le_refl _)) (fun b hb => none_of b (by rw [List.mem_singleton.mp hb, z1]; exact Nat.le_succ _)) hu (items.size - 0) 0 _ (by omega) (Nat.zero_le _)
      ⟨⟨_, Heap.get?_push_size _ rfl, rfl, rfl⟩, hl1.push _⟩ (fun b o e => Heap.get?_push_of_some _ (Heap.get?_push_of_some _ e)) ⟨[], #[], 0, _, setW_new (Heap.get?_push_of_some _ hS), List.Perm.refl _⟩ ?_
    intro s' L es ep t m R' pm kp
    obtain ⟨h', g2, d', tk', os'⟩ := s'
    obtain rfl : g2 = s.gens := m.gens
    obtain rfl : d' = s.drawn := m.drawn
    obtain rfl : os' = s.os := m.os
    exact wpAny_pure (wpAny_pure ⟨rfl, h', tk', L, es, ep, t, rfl, R', pm, kp⟩)
  · rcases r₂ with e | fl
    · exact hr₂
    rcases fl with _ | _ | _ | v <;> try exact hr₂.elim
    obtain ⟨rfl, h', tk, L, es, ep, t, rfl, R', pm, kp⟩ := hr₂
    repeat (any_goals (first | assumption | wp_step))
    exact h _ _ _ _ _ _ R' pm kp
end
end WR

-- part: WRSet4
set_option Elab.async false
set_option linter.all false
set_option maxRecDepth 100000
set_option maxHeartbeats 4000000
/-! len(set(xs)): distinct tuples of ints in a list, distinct ints in a tuple. -/
namespace WR
open PySem PySem.Spec PyProof.Rows L2
section
variable {X : Cx}
theorem Its.refs {H : Hp} : ∀ {vs : List V} {ws : List (List Int)}, Its H vs ws → ∃ as : List Addr, vs = as.map V.ref ∧ as.length = ws.length ∧ ∀ q ∈ as.zip ws, H q.1 = some (.tup (q.2.map V.int))
  | _, _, .nil => ⟨[], rfl, rfl, nofun⟩
  | v :: vs, u :: ws, .cons r t => by
    obtain ⟨a, rfl, ha⟩ := r
    obtain ⟨as, rfl, e, h⟩ := Its.refs t
    refine ⟨a :: as, rfl, by rw [List.length_cons, List.length_cons, e], fun q hq => ?_⟩
    rw [List.zip_cons_cons] at hq
    rcases List.mem_cons.mp hq with c | c
    · rw [c]
      exact ha
    · exact h q c
/-- the tuples as pairs of address and ints -/
theorem Its.pairs {H : Hp} {vs : List V} {ws : List (List Int)} (h : Its H vs ws) : ∃ ks : List (Addr × List Int), vs = ks.map (fun q => V.ref q.1) ∧ ks.map (·.2) = ws ∧ ∀ q ∈ ks, H q.1 = some (.tup (q.2.map V.int)) := by
  obtain ⟨as, rfl, e, h⟩ := h.refs
  refine ⟨as.zip ws, ?_, List.map_snd_zip (Nat.le_of_eq e.symm), h⟩
  have z : (as.zip ws).map (·.1) = as := List.map_fst_zip (Nat.le_of_eq e)
  rw [show (fun q : Addr × List Int => V.ref q.1) = V.ref ∘ (·.1) from rfl, ← List.map_map, z]
theorem Its.length {H : Hp} {vs : List V} {ws : List (List Int)} (h : Its H vs ws) : vs.length = ws.length := Paired.length h
def tLenSetW (ta : TE) : TE := fun σ H Q => ta σ H fun x H1 => ∃ ws, WL H1 x ws ∧ ws.Nodup ∧ ws.length ≤ 1100 ∧ Q (.int (ws.length : Nat)) H1
theorem pe_lenSetW {a : Expr} {ta : TE} {p p2 q pos : Pos} (hg : Gl X "len") (hm : X.mg "len" = none) (hg2 : Gl X "set") (hm2 : X.mg "set" = none) (ha : PE X a ta) (hu : X.A.units + 64 < cLine) (hc : X.calm = true := by rfl)
    (na : starEach [a] X.env = (false, eval a X.env) :: starEach [] X.env := by rfl) : PE X (.Call (.Name "len" p) [.Call (.Name "set" p2) [a] [] q] [] pos) (tLenSetW ta) := by
  refine ⟨fun pins s σ H Q I h => Call_ (ld_blt I hg hm PySem.boot_len (PyProof.Rows.callWith_builtin1 (PyProof.Rows.args_cons ?_ rfl) rfl rfl))⟩
  refine Call_ (ld_blt I hg2 hm2 PyProof.Rows.boot_set (PyProof.Rows.callWith_type1 (PyProof.Rows.args_cons (thn (ha.run pins s σ H _ I h) fun v s1 ⟨x, H1, I1, r1, q1⟩ => PyProof.Rows.args_nil ?_) na) na rfl))
  obtain ⟨ws, ⟨l, vs, rfl, hl, its⟩, nd, few, q1⟩ := q1
  cases r1
  obtain ⟨ks, e1, e2, hk⟩ := its.pairs
  subst e1 e2
  obtain ⟨us, r, pl, hz⟩ := I1.list (.inl (.inl hl))
  have hlen : ks.length = (ks.map (·.2)).length := (List.length_map _).symm
  refine call_set_w (P := X.prog) (w := X.w) ks (I1.ok.hd hc) pl.isList (by simpa using refs_of_vals r) (fun z hz => I1.isT (.inl (.inl (hk z hz)))) (by rw [hlen]; exact few) nd (by omega) fun h' tk L es ep t R pm kp => PyProof.Rows.args_nil ?_
  have I2 : Inv X pins σ H1 { s1 with heap := h', toks := tk } := I1.kept kp
  obtain ⟨o, ho, hex, hd⟩ := R.ob
  have e3 : es.size = (ks.map (·.2)).length := by rw [rows_size R.rows, pm.length_eq, hlen]
  exact call_len_set ho hex hd (R.fits (s := { s1 with heap := h', toks := tk })) (by rw [e3]; omega) ⟨.int (ks.map (·.2)).length, H1, I2.tok _, ⟨_, by rw [e3]⟩, q1⟩
theorem nodup_count {S : Int → Bool} {ks ns : List Int} (h : ks.Nodup) (n : ns.Nodup) (m : ∀ k, S k = true ↔ k ∈ ks) (e : ∀ k, S k = true ↔ k ∈ ns) : ks.length = ns.length := by
  have p : ks.Perm ns := (List.perm_ext_iff_of_nodup h n).mpr fun k => by rw [← m, e]
  exact p.length_eq
def tLenSetT (ta : TE) : TE := fun σ H Q => ta σ H fun x H1 => ∃ ns, IR H1 x ns ∧ ns.Nodup ∧ ns.length ≤ 30 ∧ Q (.int (ns.length : Nat)) H1
theorem pe_lenSetT {a : Expr} {ta : TE} {p p2 q pos : Pos} (hg : Gl X "len") (hm : X.mg "len" = none) (hg2 : Gl X "set") (hm2 : X.mg "set" = none) (ha : PE X a ta) (hc : X.calm = true := by rfl)
    (na : starEach [a] X.env = (false, eval a X.env) :: starEach [] X.env := by rfl) : PE X (.Call (.Name "len" p) [.Call (.Name "set" p2) [a] [] q] [] pos) (tLenSetT ta) := by
  refine ⟨fun pins s σ H Q I h => Call_ (ld_blt I hg hm PySem.boot_len (PyProof.Rows.callWith_builtin1 (PyProof.Rows.args_cons ?_ rfl) rfl rfl))⟩
  refine Call_ (ld_blt I hg2 hm2 PyProof.Rows.boot_set (PyProof.Rows.callWith_type1 (PyProof.Rows.args_cons (thn (ha.run pins s σ H _ I h) fun v s1 ⟨x, H1, I1, r1, q1⟩ => PyProof.Rows.args_nil ?_) na) na rfl))
  obtain ⟨ns, ⟨l, rfl, hl⟩, nd, few, q1⟩ := q1
  cases r1
  obtain ⟨us, r, ⟨o, ho, hc', n, hd⟩, hz⟩ := I1.tuple (.inl hl)
  refine call_set_tupI ns (I1.ok.hd hc) ⟨o, ho, hc', n, hd⟩ (by simpa using ints_of_vals r) (by unfold scanBound; omega) fun h' tk c R _ kp => PyProof.Rows.args_nil ?_
  obtain ⟨o, es, ep, t, ho, hex, hd, _, nd2, mem, _, hf, hn, _⟩ := R
  have e : c = ns.length := by
    have z := nodup_count nd2 nd mem fun k => decide_eq_true_iff
    rw [List.length_map] at z
    rw [← hn, ← z]
    exact Array.length_toList.symm
  have I2 : Inv X pins σ H1 { s1 with heap := h', toks := tk } := I1.kept kp
  exact call_len_set ho hex hd hf (by rw [hn, e]; omega) ⟨.int ns.length, H1, I2.tok _, ⟨_, by rw [hn, e]⟩, q1⟩
end
end WR

-- part: WRSort
set_option Elab.async false
set_option linter.all false
set_option maxRecDepth 100000
set_option maxHeartbeats 4000000
/-! sorted(xs): a list of tuples of ints, a tuple of ints. -/
namespace WR
open PySem PySem.Spec PyProof.Rows L2

/-! ### the order -/
def leR (p q : List Int) : Bool := decide (p ≤ q)
def srt (ws : List (List Int)) : List (List Int) := ws.mergeSort leR
theorem leR_trans (a b c : List Int) (h1 : leR a b = true) (h2 : leR b c = true) : leR a c = true := by
  unfold leR at *
  rw [decide_eq_true_eq] at *
  exact List.le_trans h1 h2
theorem leR_total (a b : List Int) : (leR a b || leR b a) = true := by
  unfold leR
  rw [Bool.or_eq_true, decide_eq_true_eq, decide_eq_true_eq]
  exact List.le_total a b
theorem srt_perm (ws : List (List Int)) : (srt ws).Perm ws := List.mergeSort_perm ws leR
theorem srt_eq {ws ws' : List (List Int)} (h : ws.Perm ws') : srt ws = srt ws' := by
  refine List.Perm.eq_of_pairwise (le := fun a b => leR a b = true) (fun a b _ _ h1 h2 => ?_) (List.pairwise_mergeSort leR_trans leR_total ws) (List.pairwise_mergeSort leR_trans leR_total ws') ((srt_perm ws).trans (h.trans (srt_perm ws').symm))
  unfold leR at h1 h2
  rw [decide_eq_true_eq] at h1 h2
  exact List.le_antisymm h1 h2
theorem leT_eq {β : Type} (x : β → List Int) : PySem.W.dataLe false (fun b => PyData.tuple ((x b).map .int)) = fun p q => leR (x p) (x q) := by
  funext p q
  show (!PySem.W.dataLt (.tuple ((x q).map .int)) (.tuple ((x p).map .int))) = _
  rw [PySem.W.dataLt_tuple]
  show (!PySem.W.rowLt ((x q).map .int) ((x p).map .int)) = decide (x p ≤ x q)
  rw [PySem.W.dataLt_ints]
  by_cases h : x q < x p
  · rw [decide_eq_true h, decide_eq_false fun r => List.not_lt.mpr r h]
    rfl
  · rw [decide_eq_false h, decide_eq_true (List.not_lt.mp h)]
    rfl
section
variable {X : Cx}
theorem reads_tup {h : Heap} {k : List Int} {a : Addr} {P : Program} {w : World} (x : IsT P w h k a) : ∃ as, Reads h (.ref a) (.tuple (k.map .int)) as := by
  obtain ⟨o, its, n, ho, hc, hd, hi⟩ := x
  have all : ∀ {k : List Int} {vs : List Value}, ItemsAre (intKind P w) k vs → ReadsAll h vs (k.map PyData.int) [] := fun {k vs} hi => by
    induction hi with
    | nil => exact .nil
    | @cons k0 v ks vs h1 _ ih =>
      obtain ⟨t, rfl⟩ := Value.isInt_shape h1
      exact .cons (as := []) (bs := []) (.int _ _) ih
  exact ⟨_, .tuple ho hc hd (all hi)⟩
theorem each_refs {R : Value → Addr × List Int → Prop} : ∀ {ks : List (Addr × List Int)}, (∀ q ∈ ks, R (.ref q.1) q) → PySem.W.EachIs R (ks.map fun q => Value.ref q.1) ks
  | [], _ => .nil
  | q :: ks, h => .cons (h q List.mem_cons_self) (each_refs fun r hr => h r (List.mem_cons_of_mem _ hr))
theorem each_eq : ∀ {vs : List Value} {ks : List (Addr × List Int)}, PySem.W.EachIs (fun v (q : Addr × List Int) => v = Value.ref q.1) vs ks → vs = ks.map fun q => Value.ref q.1
  | _, _, .nil => rfl
  | _, _, .cons h t => by rw [h, each_eq t]; rfl
theorem its_of {H : Hp} : ∀ {ks : List (Addr × List Int)}, (∀ q ∈ ks, H q.1 = some (.tup (q.2.map V.int))) → Its H (ks.map fun q => V.ref q.1) (ks.map (·.2))
  | [], _ => .nil
  | q :: ks, h => .cons ⟨q.1, rfl, h q List.mem_cons_self⟩ (its_of fun r hr => h r (List.mem_cons_of_mem _ hr))
/-- sorted(xs), xs a list of tuples of ints, none of them empty -/
def rSortW : List V → Hp → VK → Prop := fun vs H Q => ∃ x ws, vs = [x] ∧ WL H x ws ∧ (∀ w ∈ ws, w ≠ []) ∧ ∀ y H', Same H H' → WL H' y (srt ws) → Q y H'
theorem cr_sortW (hu : X.A.units + 64 < cLine) : CallR X (.builtin "sorted") rSortW := by
  intro pins s σ H vs us Q I r h
  obtain ⟨x, ws, rfl, ⟨l, xs, rfl, hl, its⟩, ne, q⟩ := h
  rw [Vals.ref1 r]
  obtain ⟨ks, rfl, rfl, hk⟩ := its.pairs
  obtain ⟨us', rv, pl, hz⟩ := I.list (.inl (.inl hl))
  have e1 : us' = ks.map fun q => Value.ref q.1 := refs_of_vals rv
  subst e1
  have nek : ∀ q ∈ ks, q.2 ≠ [] := fun q hq => ne _ (List.mem_map_of_mem hq)
  rw [List.length_map] at hz
  refine PySem.W.sorted_data (β := Addr × List Int) (bs := ks) (R := fun v q => v = Value.ref q.1) (enc := fun q => .tuple (q.2.map .int)) pl.isList (each_refs fun q hq => rfl) (each_refs fun q hq => reads_tup (I.isT (.inl (.inl (hk q hq)))))
    (PySem.W.AllAlike.of fun b b' => by
      show PySem.W.alike (.tuple _) (.tuple _) = true
      rw [PySem.W.alike]
      exact PySem.W.alike_ints _ _) (.inl fun d hd => ?_) hz (fun b hb => ?_) fun out h1 h2 => ?_
  · obtain ⟨q, hq, rfl⟩ := List.mem_map.mp hd
    cases e : q.2 with
    | nil => exact absurd e (nek q hq)
    | cons y r => exact ⟨.int y, r.map .int, rfl⟩
  · have d1 : (PyData.tuple (b.2.map PyData.int)).depth = 1 := by
      rw [PyData.depth, PySem.W.depth_ints]
    rw [d1]
    omega
  · rw [leT_eq (fun q : Addr × List Int => q.2)] at h2
    obtain ⟨ks', e2⟩ : ∃ ks', ks' = ks.mergeSort fun p q => leR p.2 q.2 := ⟨_, rfl⟩
    rw [← e2] at h2
    have pm : ks'.Perm ks := by rw [e2]; exact List.mergeSort_perm _ _
    have mp : ks'.map (·.2) = srt (ks.map (·.2)) := by
      rw [e2]
      exact List.map_mergeSort fun a _ b _ => rfl
    have e3 := each_eq h2
    subst e3
    obtain ⟨ep, ha⟩ := PyProof.Rows.sortedAll_at s.heap (ks.map fun q => Value.ref q.1) (List.toArray (ks'.map fun q => Value.ref q.1))
    have hf := I.hok.fresh (Nat.le_succ s.heap.objs.size)
    have sm := same_new (o := .lst (ks'.map fun q => V.ref q.1)) hf
    refine ⟨.ref _, upd H (s.heap.objs.size + 1) (.lst (ks'.map fun q => V.ref q.1)), I.laid (t' := s.toks) (fun _ _ => PyProof.Rows.sortedAll_old) (Nat.le_succ _) ⟨?_, _, ep, vals_of_refs ks', by simpa using ha⟩, rfl, q _ _ sm ⟨_, _, rfl, upd_same, ?_⟩⟩
    · rw [List.length_map, pm.length_eq]
      exact hz
    · rw [← mp]
      exact its_of fun q hq => sm _ _ (hk q (pm.mem_iff.mp hq))

/-! ### sorted(t), t a tuple of ints -/
theorem collect_tup {P : Program} {w : World} {A : Around} {E : Value → Shared → Prop} {s : Shared} {l : Addr} {vs : List Value} {Q : List Value → Shared → Prop} (hl : s.heap.IsTuple l vs.toArray) (hz : vs.length ≤ 1000)
    (h : Q vs { s with heap := (s.heap.push (seqObj "list" #[] 0)).update s.heap.objs.size (Obj.mapSeq (· ++ vs.toArray)) }) : wpAny (model P w) A (collect (.ref l)) Q E s := by
  obtain ⟨o, ho, hc, n, hd⟩ := id hl
  have hz2 : vs.length ≤ sizeLine := Nat.le_trans hz (by decide)
  have hnew : (s.heap.push (seqObj "list" #[] 0)).get? s.heap.objs.size = some (seqObj "list" #[] 0) := Heap.get?_push_size _ rfl
  unfold collect
  refine wpAny_bind (wpAny_runValue (codeAny_builtin entry_proto_collect' ?_))
  refine wpAny_bind (wpAny_newList (wpAny_pure ⟨Code.quiet_builtin _ (by decide +kernel), codeAny_builtin entry_list_iadd' ?_⟩))
  show wpAny _ _ (Builtin.List.listExtendWith (.ref _) (.ref l) (.ref _)) _ _ { s with heap := s.heap.push (seqObj "list" #[] 0) }
  unfold Builtin.List.listExtendWith
  have hol : (s.heap.push (seqObj "list" #[] 0)).get? l = some o := Heap.get?_push_of_some _ ho
  refine wpAny_bind (wpAny_typeOf (T := "tuple") ⟨o, hol, hc⟩ ?_)
  rw [if_pos (by simp)]
  refine wpAny_bind (listItems_at hol hd (wpAny_bind (listItems_at hnew rfl ?_)))
  rw [if_neg (by simp)]
  refine wpAny_bind (listUpdate_at hnew rfl ?_ (Nat.zero_le _) (by simp; omega))
  refine wpAny_pure (wpAny_bind (wpAny_load (get?_update_seq hnew _) ?_))
  show wpAny _ _ (pure ((#[] : Array Value) ++ vs.toArray).toList) Q E _
  rw [Array.toList_append]
  exact wpAny_pure h
def rSortTI : List V → Hp → VK → Prop := fun vs H Q => ∃ x ns, vs = [x] ∧ IR H x ns ∧ ns.length ≤ 30 ∧ ∀ (ns' : List Int) (p : Addr), ns'.Perm ns → ns'.Pairwise (· ≤ ·) → H p = none → Q (.ref p) (upd H p (.lst (ns'.map V.int)))
theorem cr_sortTI : CallR X (.builtin "sorted") rSortTI := by
  intro pins s σ H vs us Q I r h
  obtain ⟨x, ns, rfl, ⟨l, rfl, hl⟩, few, q⟩ := h
  rw [Vals.ref1 r]
  obtain ⟨its, rv, ht, hz⟩ := I.tuple (.inl hl)
  have hi := rv.ints
  have len : its.length = ns.length := by rw [← rv.length, List.length_map]
  refine Calls.call_function_entry kind_sorted plain_sorted entry_sorted (args_sorted1 _) ?_
  unfold Builtin.«sorted»
  refine wpAny_bind (m := checkCount "sorted" 1 1 _) (wpAny_pure (wpAny_bind (collect_tup (vs := its) (by
    obtain ⟨o, ho, hc, n, hd⟩ := ht
    exact ⟨o, ho, hc, n, hd⟩) (by omega) (wpAny_bind (wpAny_newList ?_ (Nat.le_trans (Nat.le_of_eq len) (Nat.le_trans few (by decide))))))))
  have z : ((s.heap.push (seqObj "list" #[] 0)).update s.heap.objs.size (Obj.mapSeq (· ++ its.toArray))).objs.size = s.heap.objs.size + 1 := by
    rw [Heap.size_update, size_push']
  have hL : (((s.heap.push (seqObj "list" #[] 0)).update s.heap.objs.size (Obj.mapSeq (· ++ its.toArray))).push (seqObj "list" its.toArray 0)).get? (s.heap.objs.size + 1) = some (seqObj "list" its.toArray 0) := by
    rw [← z]
    exact Heap.get?_push_size _ rfl
  show wpAny _ _ _ _ _ { s with heap := ((s.heap.push (seqObj "list" #[] 0)).update s.heap.objs.size (Obj.mapSeq (· ++ its.toArray))).push (seqObj "list" its.toArray 0) }
  rw [z]
  refine wpAny_bind (wpAny_holding (wpAny_call_entry slot_list_sort ⟨_, hL, rfl⟩ entry_list_sort (list_sort_tree hL hi (by omega) fun out ns' a1 a2 a3 => ⟨_, rfl, ?_⟩) (args_list_sort _)))
  obtain ⟨ep, ha⟩ := PyProof.Rows.sortedAll_at s.heap its out
  refine wpAny_pure ⟨_, rfl, .ref (s.heap.objs.size + 1), upd H (s.heap.objs.size + 1) (.lst (ns'.map V.int)), I.laid (t' := s.toks) (fun _ _ => PyProof.Rows.sortedAll_old) (Nat.le_succ _) ⟨?_, out.toList, ep, vals_of_ints a1, ha⟩, rfl, q ns' _ a2 a3 (I.hok.fresh (Nat.le_succ _))⟩
  rw [List.length_map, a2.length_eq]
  exact Nat.le_trans few (by decide)
end
end WR

-- part: WRDict
set_option Elab.async false
set_option linter.all false
set_option maxRecDepth 100000
set_option maxHeartbeats 4000000
/-! dict([(w, True) for w in ws]), the ws tuples of ints. -/
namespace WR
open PySem PySem.Spec PyProof.Rows L2
def kk (w : List Int) : List Key := w.map Sum.inl
theorem kk_v (w : List Int) : (kk w).map kV = w.map V.int := by
  unfold kk
  rw [List.map_map]
  rfl
theorem kk_inj {u w : List Int} (h : kk u = kk w) : u = w := by
  induction u generalizing w with
  | nil => cases w with
    | nil => rfl
    | cons _ _ => exact nomatch h
  | cons a u ih => cases w with
    | nil => exact nomatch h
    | cons b w =>
      rw [kk, kk, List.map_cons, List.map_cons] at h
      injection h with h1 h2
      injection h1 with h1
      rw [h1, ih h2]
/-- the dict has just these keys -/
structure Keys (kvs : List (List Key × V)) (ws : List (List Int)) : Prop where
  mem : ∀ w, (valV kvs (kk w)).isSome = decide (w ∈ ws)
  len : ws.Nodup → kvs.length = ws.length
  le : kvs.length ≤ ws.length
theorem Keys.nil : Keys [] [] := ⟨fun w => rfl, fun _ => rfl, Nat.le_refl _⟩
theorem Keys.put {kvs : List (List Key × V)} {ws : List (List Int)} (h : Keys kvs ws) (w : List Int) (y : V) : Keys (putK kvs (kk w) y) (ws ++ [w]) where
  mem := fun u => by
    rw [valV_put]
    by_cases e : kk u = kk w
    · rw [if_pos e, kk_inj e]
      simp
    · rw [if_neg e, h.mem]
      have ne : u ≠ w := fun c => e (by rw [c])
      simp [ne]
  len := fun nd => by
    rw [List.nodup_append] at nd
    have no : valV kvs (kk w) = none := by
      have q := h.mem w
      rw [decide_eq_false fun c => nd.2.2 w c w (List.mem_singleton.mpr rfl) rfl] at q
      simpa using q
    rw [putK_new y no, List.length_append, List.length_append, h.len nd.1]
    rfl
  le := by
    have q := h.le
    unfold putK
    split
    · rw [List.length_map, List.length_append]
      omega
    · rw [List.length_append, List.length_append]
      simp only [List.length_singleton]
      omega
theorem Keys.perm_nodup {kvs : List (List Key × V)} {ws : List (List Int)} (h : Keys kvs ws) (w : List Int) : (w ∈ ws ↔ (valV kvs (kk w)).isSome = true) := by
  rw [h.mem, decide_eq_true_eq]
/-- a dict whose keys are these tuples of ints -/
def DK (H : Hp) (x : V) (ws : List (List Int)) : Prop := ∃ a kvs, x = .ref a ∧ H a = some (.dT kvs) ∧ Keys kvs ws
theorem DK.same {H H' : Hp} {x : V} {ws : List (List Int)} (s : Same H H') (h : DK H x ws) : DK H' x ws := by
  obtain ⟨a, kvs, e, h, k⟩ := h
  exact ⟨a, kvs, e, s _ _ h, k⟩
/-- item by item: the pair (w, True) -/
def Prs (H : Hp) : List V → List (List Int) → Prop := Paired fun v w => ∃ p b, v = .ref p ∧ H p = some (.tup [.ref b, .bl true]) ∧ H b = some (.tup (w.map V.int))
theorem Prs.open {H : Hp} : ∀ {vs : List V} {ws : List (List Int)}, Prs H vs ws → ∃ tr : List (Addr × Addr × List Int), vs = tr.map (fun q => V.ref q.1) ∧ ws = tr.map (fun q => q.2.2) ∧
    ∀ q ∈ tr, H q.1 = some (.tup [.ref q.2.1, .bl true]) ∧ H q.2.1 = some (.tup (q.2.2.map V.int))
  | _, _, .nil => ⟨[], rfl, rfl, nofun⟩
  | v :: vs, w :: ws, .cons r t => by
    obtain ⟨p, b, rfl, h1, h2⟩ := r
    obtain ⟨tr, rfl, rfl, h⟩ := Prs.open t
    refine ⟨(p, b, w) :: tr, rfl, rfl, fun q hq => ?_⟩
    rcases List.mem_cons.mp hq with c | c
    · rw [c]
      exact ⟨h1, h2⟩
    · exact h q c
def kvOf : List (Addr × Addr × List Int) → List (List Key × V) → List (List Key × V)
  | [], c => c
  | q :: tr, c => kvOf tr (putK c (kk q.2.2) (.bl true))
theorem kvOf_keys : ∀ (tr : List (Addr × Addr × List Int)) (c : List (List Key × V)) (ws : List (List Int)), Keys c ws → Keys (kvOf tr c) (ws ++ tr.map fun q => q.2.2)
  | [], c, ws, h => by
    rw [List.map_nil, List.append_nil]
    exact h
  | q :: tr, c, ws, h => by
    have e : ws ++ (q :: tr).map (fun q => q.2.2) = (ws ++ [q.2.2]) ++ tr.map fun q => q.2.2 := by simp
    rw [e]
    exact kvOf_keys tr _ _ (h.put q.2.2 (.bl true))
theorem kvOf_kt {H : Hp} : ∀ (tr : List (Addr × Addr × List Int)) (c : List (List Key × V)) (xs : List (List Key × Addr × Value)), (∀ q ∈ tr, H q.2.1 = some (.tup (q.2.2.map V.int))) → KT H c xs →
    KT H (kvOf tr c) (storedAllH xs (tr.map fun q => (kk q.2.2, q.2.1, Value.bool true)))
  | [], _, _, _, h => h
  | q :: tr, c, xs, ht, h => by
    have s : KT H (putK c (kk q.2.2) (.bl true)) (storedH xs (kk q.2.2) q.2.1 (Value.bool true)) := KT.put h (kk q.2.2) (by rw [kk_v]; exact ht q List.mem_cons_self) rfl
    exact kvOf_kt tr _ _ (fun r hr => ht r (List.mem_cons_of_mem _ hr)) s
section
variable {X : Cx}
def rDictW : List V → Hp → VK → Prop := fun vs H Q => ∃ l xs ws, vs = [.ref l] ∧ H l = some (.lst xs) ∧ Prs H xs ws ∧ ∀ y H', Same H H' → DK H' y ws → Q y H'
theorem cr_dictW (hu : X.A.units + 64 < cLine) (hc : X.calm = true := by rfl) : CallR X (.type "dict") rDictW := by
  intro pins s σ H vs us Q I r h
  obtain ⟨l, xs, ws, rfl, hl, pr, q⟩ := h
  rw [Vals.ref1 r]
  obtain ⟨tr, rfl, rfl, ht⟩ := pr.open
  obtain ⟨its, rv, pl, hz⟩ := I.list (.inl (.inl hl))
  have e1 : its = (tr.map (·.1)).map Value.ref := by
    refine refs_at (ps := tr.map (·.1)) ?_
    rw [List.map_map]
    exact rv
  subst e1
  rw [List.length_map] at hz
  obtain ⟨o, n, ho, ocl, od, odt⟩ := pl
  refine call_dict_pairsH (knd := tupleKind (mixKind X.prog X.w)) (ps := tr.map fun q => (kk q.2.2, q.2.1, Value.bool true)) (PairArg.list l ((tr.map (·.1)).map Value.ref).toArray (fun j => (tr.map (·.1)).getD j 0) (tr.map fun q => (Value.ref q.2.1, Value.bool true)))
    (I.ok.hd hc) (tupleKind_room_in1 (by show X.A.units + 1 + 1 < cLine; omega)) ⟨⟨o, n, ho, ocl, od, by simpa using odt⟩, by simp, fun j k v hj => ?_⟩ ⟨by simp, fun i key v hi => ?_⟩ (fun h' kp x hx => ?_) (by rw [List.length_map]; exact hz) fun h' tk dd kp => ?_
  · rw [List.getElem?_map] at hj
    obtain ⟨z, z1, z2⟩ := Option.map_eq_some_iff.mp hj
    injection z2 with z2 z3
    subst z2 z3
    have m : z ∈ tr := List.mem_of_getElem? z1
    have g : (tr.map (·.1)).getD j 0 = z.1 := by rw [List.getD_eq_getElem?_getD, List.getElem?_map, z1]; rfl
    refine ⟨?_, .inl ?_⟩
    · show _ = some (Value.ref ((tr.map (·.1)).getD j 0))
      rw [g, List.getElem?_toArray, List.getElem?_map, List.getElem?_map, z1]
      rfl
    · obtain ⟨us2, rv2, ⟨o2, h2, c2, n2, d2⟩, _⟩ := I.tuple (.inl (.inl (ht z m).1))
      obtain ⟨u1, u2, e2, r1, r2⟩ := vals2 rv2
      subst e2
      cases r1
      cases r2
      show s.heap.IsTuple ((tr.map (·.1)).getD j 0) _
      rw [g]
      exact ⟨o2, h2, c2, n2, d2⟩
  · have hi' : (tr.map fun q => (Value.ref q.2.1, Value.bool true))[i]? = some (key, v) := hi
    rw [List.getElem?_map] at hi'
    obtain ⟨z, z1, z2⟩ := Option.map_eq_some_iff.mp hi'
    injection z2 with z2 z3
    subst z2 z3
    exact ⟨kk z.2.2, z.2.1, by rw [List.getElem?_map, z1]; rfl, rfl⟩
  · obtain ⟨z, z1, rfl⟩ := List.mem_map.mp hx
    obtain ⟨o2, its2, n2, h1, h2, h3, h4⟩ := key_of (P := X.prog) (w := X.w) (ks := kk z.2.2) I.hok (by rw [kk_v]; exact (ht z z1).2)
    exact ⟨o2, its2, n2, kp _ _ (Nat.ne_of_lt (Heap.lt_size h1)) nofun h1, h2, h3, h4⟩
  · have kt := kvOf_kt (H := H) tr [] [] (fun q hq => (ht q hq).2) .nil
    have ky := kvOf_keys tr [] [] Keys.nil
    rw [List.nil_append] at ky
    have fr := I.hok.fresh (Nat.le_refl s.heap.objs.size)
    have big : (s.heap.objs.size == sysModules) = false := beq_eq_false_iff_ne.mpr (Nat.ne_of_gt I.big)
    have sm := same_new (o := .dT (kvOf tr [])) fr
    obtain ⟨od, es, ep, d1, d2, d3, d4, _, d6⟩ := dd
    refine ⟨.ref s.heap.objs.size, upd H s.heap.objs.size (.dT (kvOf tr [])), I.laid (t' := tk) (fun b u e => kp b u nofun e) (Nat.le_refl _) ⟨?_, big, _, ?_, od, es, ep, d1, d2, d3, d4, d6⟩, rfl, q _ _ sm ⟨_, _, rfl, upd_same, ky⟩⟩
    · have z := ky.le
      rw [List.length_map] at z
      omega
    · exact kt.keeps fun b ys e => sm _ _ e
end
end WR

-- part: WRData
set_option Elab.async false
set_option linter.all false
set_option maxRecDepth 100000
set_option maxHeartbeats 4000000
/-! ==, !=, min, index over tuples of ints and lists of such. -/
namespace WR
open PySem PySem.Spec PyProof.Rows L2
theorem dp_ints {K : PySem.W.Frag} {H : Hp} : ∀ ns : List Int, DpAll K H (ns.map V.int) (ns.map PyData.int)
  | [] => .nil
  | n :: ns => .cons (.int n) (dp_ints ns)
theorem dp_ir {K : PySem.W.Frag} {H : Hp} {v : V} {ns : List Int} (h : IR H v ns) : Dp K H v (.tuple (ns.map .int)) := by
  obtain ⟨a, rfl, h⟩ := h
  exact .tup (.inl h) (dp_ints ns)
theorem dp_it {K : PySem.W.Frag} {H : Hp} {v : V} {ns : List Int} (h : IT H v ns) : Dp K H v (.tuple (ns.map .int)) := by
  obtain ⟨a, rfl, h⟩ := h
  exact .tup (.inl (.inl h)) (dp_ints ns)
theorem dp_its {K : PySem.W.Frag} {H : Hp} {vs : List V} {ws : List (List Int)} (h : Its H vs ws) : DpAll K H vs (ws.map fun w => .tuple (w.map .int)) := by
  induction h with
  | nil => exact .nil
  | cons r _ ih => exact .cons (dp_it r) ih
theorem dp_wl {K : PySem.W.Frag} {H : Hp} {v : V} {ws : List (List Int)} (h : WL H v ws) : Dp K H v (.list (ws.map fun w => .tuple (w.map .int))) := by
  obtain ⟨a, vs, rfl, h, i⟩ := h
  exact .lst (.inl (.inl h)) (dp_its i)
theorem p_at1 {α β : Type} {F : α → β → Prop} {l₁ : List α} {l₂ : List β} (h : Paired F l₁ l₂) : ∀ {i : Nat} {x : α}, l₁[i]? = some x → ∃ y, l₂[i]? = some y ∧ F x y := by
  induction h with
  | nil => intro i x e; exact nomatch e
  | cons r _ ih =>
    intro i x e
    cases i with
    | zero => exact ⟨_, rfl, Option.some.inj e ▸ r⟩
    | succ i => exact ih e
theorem p_at2 {α β : Type} {F : α → β → Prop} {l₁ : List α} {l₂ : List β} (h : Paired F l₁ l₂) : ∀ {i : Nat} {y : β}, l₂[i]? = some y → ∃ x, l₁[i]? = some x ∧ F x y := by
  induction h with
  | nil => intro i x e; exact nomatch e
  | cons r _ ih =>
    intro i x e
    cases i with
    | zero => exact ⟨_, rfl, Option.some.inj e ▸ r⟩
    | succ i => exact ih e
abbrev tu (w : List Int) : PySem.W.Tup Int := ⟨w⟩
theorem tu_inj {u w : List Int} : tu u = tu w ↔ u = w := ⟨fun e => by injection e, fun e => by rw [e]⟩
theorem map_tu {us ws : List (List Int)} : us.map tu = ws.map tu ↔ us = ws := ⟨fun e => List.map_inj_right (f := tu) (fun _ _ h => tu_inj.mp h) |>.mp e, fun e => by rw [e]⟩
section
variable {X : Cx} {pins : List (Addr × Obj)} {σ : L2.St} {H : Hp} {s : Shared}
theorem hold_ir (I : Inv X pins σ H s) {v : V} {u : Value} {ns : List Int} (h : IR H v ns) (r : L2.RelV v u) : PySem.W.Holds s.heap u (tu ns) := Dp.reads I _ v u (dp_ir h) r
theorem hold_it (I : Inv X pins σ H s) {v : V} {u : Value} {ns : List Int} (h : IT H v ns) (r : L2.RelV v u) : PySem.W.Holds s.heap u (tu ns) := Dp.reads I _ v u (dp_it h) r
theorem hold_its (I : Inv X pins σ H s) {vs : List V} {us : List Value} {ws : List (List Int)} (h : Its H vs ws) (r : Vals vs us) : PySem.W.HoldAll s.heap us (ws.map tu) := by
  obtain ⟨as, q⟩ := Dp.readsAll I _ vs us (dp_its h) r
  exact ⟨as, by rw [List.map_map]; exact q⟩
theorem hold_ints (I : Inv X pins σ H s) {us : List Value} {ns : List Int} (r : Vals (ns.map V.int) us) : PySem.W.HoldAll s.heap us ns := Dp.readsAll I _ _ us (dp_ints ns) r
theorem hold_wl (I : Inv X pins σ H s) {v : V} {u : Value} {ws : List (List Int)} (h : WL H v ws) (r : L2.RelV v u) : PySem.W.Holds s.heap u (ws.map tu) := by
  obtain ⟨as, q⟩ := Dp.reads I _ v u (dp_wl h) r
  refine ⟨as, ?_⟩
  show Reads s.heap u (.list ((ws.map tu).map PySem.W.Datum.toD)) as
  rw [List.map_map]
  exact q
theorem hold_il (I : Inv X pins σ H s) {a : Addr} {u : Value} {ns : List Int} (h : H a = some (.lst (ns.map V.int))) (r : L2.RelV (.ref a) u) : PySem.W.Holds s.heap u ns :=
  Dp.reads I (.list (ns.map .int)) _ u (.lst (.inl (.inl h)) (dp_ints ns)) r

/-! ### ==, != -/
def rEqIT : R2 := fun x y H Q => ∃ us ws, IR H x us ∧ IR H y ws ∧ Q (.bl (decide (us = ws))) H
def rNeIT : R2 := fun x y H Q => ∃ us ws, IR H x us ∧ IR H y ws ∧ Q (.bl (decide (us ≠ ws))) H
def rEqWL : R2 := fun x y H Q => ∃ us ws, WL H x us ∧ WL H y ws ∧ Q (.bl (decide (us = ws))) H
def rNeWL : R2 := fun x y H Q => ∃ us ws, WL H x us ∧ WL H y ws ∧ Q (.bl (decide (us ≠ ws))) H
def rEqIL : R2 := fun x y H Q => ∃ (a b : Addr) (us ws : List Int), x = .ref a ∧ y = .ref b ∧ H a = some (.lst (us.map V.int)) ∧ H b = some (.lst (ws.map V.int)) ∧ Q (.bl (decide (us = ws))) H
theorem op_eqIT (hu : X.A.units + 64 < cLine) : OpR X (compareOp .Eq) rEqIT := by
  intro pins s σ H x y v u Q I rx ry ⟨us, ws, h1, h2, q⟩
  refine PySem.W.eq_datum (hold_ir I h1 rx) (hold_ir I h2 ry) (by show _ + 1 < _; omega) ⟨.bl (decide (us = ws)), H, I, ?_, q⟩
  rw [decide_eq_decide.mpr tu_inj]
  rfl
theorem op_neIT (hu : X.A.units + 64 < cLine) : OpR X (compareOp .NotEq) rNeIT := by
  intro pins s σ H x y v u Q I rx ry ⟨us, ws, h1, h2, q⟩
  refine PySem.W.ne_datum (hold_ir I h1 rx) (hold_ir I h2 ry) (by show _ + 1 < _; omega) ⟨.bl (decide (us ≠ ws)), H, I, ?_, q⟩
  rw [decide_eq_decide.mpr (not_congr tu_inj)]
  rfl
theorem op_eqWL (hu : X.A.units + 64 < cLine) : OpR X (compareOp .Eq) rEqWL := by
  intro pins s σ H x y v u Q I rx ry ⟨us, ws, h1, h2, q⟩
  refine PySem.W.eq_datum (hold_wl I h1 rx) (hold_wl I h2 ry) (by show _ + 2 < _; omega) ⟨.bl (decide (us = ws)), H, I, ?_, q⟩
  rw [decide_eq_decide.mpr map_tu]
  rfl
theorem op_neWL (hu : X.A.units + 64 < cLine) : OpR X (compareOp .NotEq) rNeWL := by
  intro pins s σ H x y v u Q I rx ry ⟨us, ws, h1, h2, q⟩
  refine PySem.W.ne_datum (hold_wl I h1 rx) (hold_wl I h2 ry) (by show _ + 2 < _; omega) ⟨.bl (decide (us ≠ ws)), H, I, ?_, q⟩
  rw [decide_eq_decide.mpr (not_congr map_tu)]
  rfl
theorem op_eqIL (hu : X.A.units + 64 < cLine) : OpR X (compareOp .Eq) rEqIL := by
  intro pins s σ H x y v u Q I rx ry ⟨a, b, us, ws, e1, e2, h1, h2, q⟩
  subst e1 e2
  exact PySem.W.eq_datum (hold_il I h1 rx) (hold_il I h2 ry) (by show _ + 1 < _; omega) ⟨.bl (decide (us = ws)), H, I, rfl, q⟩
/-- xs != [] -/
def rNeNil : R2 := fun x y H Q => ∃ (a b : Addr) (xs : List V), x = .ref a ∧ y = .ref b ∧ H a = some (.lst xs) ∧ H b = some (.lst []) ∧ Q (.bl (decide (xs ≠ []))) H
theorem op_neNil (hu : X.A.units + 64 < cLine) : OpR X (compareOp .NotEq) rNeNil := by
  intro pins s σ H x y v u Q I rx ry ⟨a, b, xs, e1, e2, h1, h2, q⟩
  subst e1 e2
  cases rx
  cases ry
  obtain ⟨us, r1, p1, _⟩ := I.list (.inl (.inl h1))
  obtain ⟨ws, r2, p2, _⟩ := I.list (.inl (.inl h2))
  cases r2
  cases xs with
  | nil =>
    exact PySem.W.ne_datum (α := List Int) (x := []) (y := []) (hold_il I h1 rfl) (hold_il I h2 rfl) (by show _ + 1 < _; omega) ⟨.bl _, H, I, rfl, q⟩
  | cons x xs =>
    have z := r1.length
    rw [List.length_cons] at z
    exact SeqAt.RcNeAt.lists_lengths p1.isList p2.isList (by simp; intro c; rw [c] at z; exact nomatch z) (by omega) X.prog X.w X.xe _ ⟨.bl _, H, I, rfl, q⟩

/-! ### index, min -/
def rIndexI : V → List V → Hp → VK → Prop := fun x xs H Q => ∃ ns k, IR H x ns ∧ xs = [.int k] ∧ k ∈ ns ∧ Q (.int (ns.idxOf k : Nat)) H
theorem mt_tindexI (hu : X.A.units + 64 < cLine) : MtR X "tuple.index" rIndexI := by
  intro pins s σ H x xs v us Q I rx rxs ⟨ns, k, ⟨a, e, h⟩, e2, m, q⟩
  subst e e2
  cases rx
  obtain ⟨us', rv, ⟨o, ho, hc, n, hd⟩, _⟩ := I.tuple (.inl h)
  obtain ⟨u, rfl, t, rfl⟩ := vals1 rxs
  exact PySem.W.index_tuple_datum (xs := ns) (x := k) ⟨o, ho, hc, n, hd⟩ (hold_ints I rv) (PySem.W.holds_int ..) (by show _ + 1 + 0 < _; omega) m ⟨.int (ns.idxOf k : Nat), H, I.tok _, ⟨_, rfl⟩, q⟩
def rIndexW : V → List V → Hp → VK → Prop := fun x xs H Q => ∃ ws y w, WT H x ws ∧ xs = [y] ∧ IT H y w ∧ w ∈ ws ∧ Q (.int (ws.idxOf w : Nat)) H
theorem idx_tu (w : List Int) : ∀ ws : List (List Int), (ws.map tu).idxOf (tu w) = ws.idxOf w
  | [] => rfl
  | u :: ws => by
    rw [List.map_cons, List.idxOf_cons, List.idxOf_cons, idx_tu w ws]
    have e : (tu u == tu w) = (u == w) := by
      rw [Bool.eq_iff_iff, beq_iff_eq, beq_iff_eq]
      exact tu_inj
    rw [e]
theorem mt_tindexW (hu : X.A.units + 64 < cLine) : MtR X "tuple.index" rIndexW := by
  intro pins s σ H x xs v us Q I rx rxs ⟨ws, y, w, ⟨a, vs, e, h, its⟩, e2, hy, m, q⟩
  subst e e2
  cases rx
  obtain ⟨us', rv, ⟨o, ho, hc, n, hd⟩, _⟩ := I.tuple (.inl h.rd)
  obtain ⟨u, rfl, ry⟩ := vals1 rxs
  refine PySem.W.index_tuple_datum (xs := ws.map tu) (x := tu w) ⟨o, ho, hc, n, hd⟩ (hold_its I its rv) (hold_it I hy ry) (by show _ + 1 + 1 < _; omega) (List.mem_map_of_mem m) ?_
  rw [idx_tu]
  exact ⟨.int (ws.idxOf w : Nat), H, I.tok _, ⟨_, rfl⟩, q⟩
theorem minOf_mem {α : Type} [DecidableEq α] [PySem.W.DatumOrd α] : ∀ (xs : List α) (x : α), PySem.W.minOf x xs ∈ x :: xs
  | [], x => List.mem_cons_self
  | y :: ys, x => by
    show PySem.W.minOf (if PySem.W.DatumOrd.lt y x = true then y else x) ys ∈ _
    have q := minOf_mem ys (if PySem.W.DatumOrd.lt y x = true then y else x)
    rcases List.mem_cons.mp q with c | c
    · rw [c]
      split
      · exact List.mem_cons_of_mem _ List.mem_cons_self
      · exact List.mem_cons_self
    · exact List.mem_cons_of_mem _ (List.mem_cons_of_mem _ c)
/-- min(t), t a tuple of ints -/
theorem minOf_le : ∀ (xs : List Int) (x : Int), PySem.W.minOf x xs ≤ x ∧ ∀ y ∈ xs, PySem.W.minOf x xs ≤ y
  | [], x => ⟨Int.le_refl _, nofun⟩
  | y :: ys, x => by
    obtain ⟨h1, h2⟩ := minOf_le ys (if PySem.W.DatumOrd.lt y x = true then y else x)
    have e : PySem.W.minOf x (y :: ys) = PySem.W.minOf (if PySem.W.DatumOrd.lt y x = true then y else x) ys := rfl
    rw [e]
    have d : PySem.W.DatumOrd.lt y x = decide (y < x) := rfl
    rw [d] at h1 h2 ⊢
    by_cases c : y < x
    · rw [if_pos (decide_eq_true c)] at h1 h2 ⊢
      refine ⟨by omega, fun z hz => ?_⟩
      rcases List.mem_cons.mp hz with e | e
      · rw [e]
        exact h1
      · exact h2 z e
    · rw [if_neg (by rw [decide_eq_false c]; exact Bool.false_ne_true)] at h1 h2 ⊢
      refine ⟨h1, fun z hz => ?_⟩
      rcases List.mem_cons.mp hz with e | e
      · rw [e]
        omega
      · exact h2 z e
def rMinT : List V → Hp → VK → Prop := fun vs H Q => ∃ x ns, vs = [x] ∧ IR H x ns ∧ ns ≠ [] ∧ ∀ m, m ∈ ns → (∀ y ∈ ns, m ≤ y) → Q (.int m) H
theorem cr_minT (hu : X.A.units + 64 < cLine) (hc : X.calm = true := by rfl) : CallR X (.builtin "min") rMinT := by
  intro pins s σ H vs us Q I r ⟨x, ns, e1, ⟨a, e2, h⟩, ne, q⟩
  subst e1 e2
  rw [Vals.ref1 r]
  obtain ⟨us', rv, ⟨o, ho, hcl, n, hd⟩, _⟩ := I.tuple (.inl h)
  cases ns with
  | nil => exact absurd rfl ne
  | cons n0 ns =>
    refine PySem.W.min_tuple_datum (x := n0) (xs := ns) (I.ok.hd hc) ⟨o, ho, hcl, n, hd⟩ (by simpa using hold_ints I rv) (by show _ + 1 + 0 < _; omega) fun i v h' tk hi hv kp => ?_
    rw [List.getElem?_toArray] at hi
    obtain ⟨y, hy, ry⟩ : ∃ y, ((n0 :: ns).map V.int)[i]? = some y ∧ L2.RelV y v := p_at2 rv hi
    rw [List.getElem?_map] at hy
    obtain ⟨z, hz, rfl⟩ := Option.map_eq_some_iff.mp hy
    obtain ⟨t, rfl⟩ := ry
    obtain ⟨as, rd⟩ := hv
    have rd' : Reads h' (.int z t) (.int (PySem.W.minOf n0 ns)) as := rd
    have ez : z = PySem.W.minOf n0 ns := by
      cases rd'
      rfl
    obtain ⟨m1, m2⟩ := minOf_le ns n0
    refine ⟨.int z, H, I.kept (t' := tk) kp, ⟨t, rfl⟩, ?_⟩
    rw [ez]
    exact q _ (minOf_mem ns n0) fun y hy => by
      rcases List.mem_cons.mp hy with e | e
      · rw [e]
        exact m1
      · exact m2 y e
/-- min(xs, default=None), xs a list of tuples of ints: one of them, or None -/
def rMinDef : List V → List V → Hp → VK → Prop := fun vs zs H Q => ∃ x ws, vs = [x] ∧ zs = [.non] ∧ WL H x ws ∧ (ws = [] → Q .non H) ∧ ∀ y w, w ∈ ws → IT H y w → Q y H
theorem cr_minDef (hu : X.A.units + 64 < cLine) (hc : X.calm = true := by rfl) : CallRK X (.builtin "min") [Str.ofString "default"] rMinDef := by
  intro pins s σ H vs zs us ws' Q I r rz ⟨x, ws, e1, e2, ⟨a, xs, e3, h, its⟩, q0, q⟩
  subst e1 e2 e3
  obtain ⟨u, rfl, e4⟩ := vals1 rz
  obtain rfl : u = Value.none := e4
  rw [Vals.ref1 r]
  obtain ⟨us', rv, pl, _⟩ := I.list (.inl (.inl h))
  refine PySem.W.min_list_datum_default (xs := ws.map tu) (I.ok.hd hc) pl.isList (by simpa using hold_its I its rv) (by show _ + 1 + 1 < _; omega) (fun e h' tk kp => ⟨.non, H, I.kept (t' := tk) kp, rfl, q0 (List.map_eq_nil_iff.mp e)⟩) fun y ys i v h' tk e hi hv kp => ?_
  rw [List.getElem?_toArray] at hi
  obtain ⟨v', hy, ry⟩ := p_at2 rv hi
  obtain ⟨w, hw, iw⟩ := p_at1 its hy
  exact ⟨v', H, I.kept (t' := tk) kp, ry, q v' w (List.mem_of_getElem? hw) iw⟩
/-- t.index(e), t a tuple that is known to have no dict -/
def tTM (r : V → List V → Hp → VK → Prop) (to : TE) (t : TA) : TE := fun σ H Q => to σ H fun x H1 => (∃ a vs, x = .ref a ∧ TupF H1 a vs) ∧ t σ H1 fun xs H2 => r x xs H2 Q
theorem pe_tix {o e : Expr} {es : List Expr} {to : TE} {t : TA} {apos cpos : Pos} {r : V → List V → Hp → VK → Prop} (hm : MtR X "tuple.index" r) (ho : PE X o to) (ha : PA X (e :: es) t) (hbase : attributeBase o "index" X.env (eval o X.env) = eval o X.env := by rfl)
    (hfew : ((backTo cpos (starEach (e :: es) X.env)).all (fun x => !x.1) && (backToKw cpos (keywordEach [] X.env)).all (fun x => x.1.isSome) && decide ((e :: es).length + ([] : List Keyword).length + (if ([] : List Keyword).isEmpty then 0 else 1) < 30)) = true := by rfl)
    (hline : (apos.endLine == cpos.line) = true := by rfl) (hs : starEach (e :: es) X.env = (false, eval e X.env) :: starEach es X.env := by rfl) (hplain : (backTo cpos (starEach es X.env)).any (·.1) = false := by rfl) : PE X (.Call (.Attribute o "index" apos) (e :: es) [] cpos) (tTM r to t) := by
  refine ⟨fun pins s σ H Q I h => wpAny_Call_method_late hbase hfew hline rfl (thn (ho.run pins s σ H _ I h) fun v s1 ⟨x, H1, I1, r1, ⟨a, vs, ex, ob, ha1, hc, hd⟩, q1⟩ => ?_)⟩
  subst ex
  cases r1
  have hob : s1.heap.get? a = some ob := (I1.hok a _ ha1).1
  refine ⟨"tuple", "tuple.index", PySem.F.plainAttrs_tuple, PySem.F.slot_tuple_index, PySem.F.type_tuple_index, ⟨ob, hob, hc⟩, fun b e => ?_, ?_⟩
  · cases e
    exact ⟨ob, hob, hd⟩
  have hA := ha.run cpos pins s1 σ H1 _ I1 q1
  rw [hs] at hA ⊢
  refine Calls.callWith_builtin (by show (false || (backTo cpos (starEach es X.env)).any (·.1)) = false; rw [hplain]; rfl) (Calls.evalArgs_plain (thn hA fun us s2 ⟨vs, H2, I2, r2, q2⟩ => hm pins s2 σ H2 (.ref a) vs (.ref a) us Q I2 rfl r2 q2))
end
end WR

-- part: WRFrz
set_option Elab.async false
set_option linter.all false
set_option maxRecDepth 100000
set_option maxHeartbeats 4000000
/-! New tuples of which it is kept that they have no dict. -/
namespace WR
open PySem PySem.Spec PyProof.Rows L2
abbrev tupO (its : List Value) : Obj := { cls := .type "tuple", data := .seq its.toArray }
section
variable {X : Cx} {pins : List (Addr × Obj)} {σ : L2.St} {H : Hp} {s : Shared}
theorem laidF (I : Inv X pins σ H s) {its : List Value} {xs : List V} (r : Vals xs its) (hz : xs.length ≤ sizeLine) (tk : Nat) : Inv X pins σ (upd H s.heap.objs.size (.frz (tupO its) (.tup xs))) { s with heap := s.heap.push (tupO its), toks := tk } :=
  I.laid (t' := tk) (fun b u e => Heap.get?_push_of_some _ e) (Nat.le_refl _) ⟨Heap.get?_push_size _ rfl, hz, its, r, IsTup.new _ _⟩
theorem tupF_new {p : Addr} {its : List Value} {xs : List V} : TupF (upd H p (.frz (tupO its) (.tup xs))) p xs := ⟨_, upd_same, rfl, rfl⟩
def kTupF (x : V) (H : Hp) (Q : VK) : Prop := ∃ p xs, x = .ref p ∧ H p = some (.lst xs) ∧ ∀ q H2, Same H H2 → TupF H2 q xs → Q (.ref q) H2
/-- tuple(xs), xs a list -/
theorem pe_tupF {a : Expr} {ta : TE} {p pos : Pos} (hg : Gl X "tuple") (hm : X.mg "tuple" = none) (ha : PE X a ta) (na : starEach [a] X.env = (false, eval a X.env) :: starEach [] X.env := by rfl) : PE X (.Call (.Name "tuple" p) [a] [] pos) (tThen ta kTupF) := by
  refine ⟨fun pins s σ H Q I h => Call_ (ld_blt I hg hm boot_tuple (PyProof.Rows.callWith_type1 (one_arg ha I h (fun v s2 x H2 I2 r ⟨p, xs, ex, hp, q⟩ => ?_) na) na))⟩
  subst ex
  cases r
  obtain ⟨its, rv, pl, hz⟩ := I2.list (.inl (.inl hp))
  refine call_tuple_list pl.isList (fun h' hk => ?_) (by rw [List.size_toArray, ← rv.length]; exact hz)
  have I3 : Inv X pins σ H2 { s2 with heap := h' } := I2.kept (t' := s2.toks) hk
  exact ⟨.ref h'.objs.size, _, laidF I3 rv hz s2.toks, rfl, q _ _ (same_new (I3.hok.fresh (Nat.le_refl _))) tupF_new⟩
/-- tuple(range(n)) -/
def tRgF (te : L2.St → Hp → (Int → Int → Hp → Prop) → Prop) : TE := fun σ H Q => te σ H fun a b H1 => RgOk a b ∧ ∀ q H2, Same H1 H2 → TupF H2 q (rgV a b) → Q (.ref q) H2
theorem pe_rgF {e : Expr} {te : L2.St → Hp → (Int → Int → Hp → Prop) → Prop} {p pos : Pos} (hg : Gl X "tuple") (hm : X.mg "tuple" = none) (he : PRg X e te) (hc : X.calm = true := by rfl) (na : starEach [e] X.env = (false, eval e X.env) :: starEach [] X.env := by rfl) : PE X (.Call (.Name "tuple" p) [e] [] pos) (tRgF te) := by
  refine ⟨fun pins s σ H Q I h => Call_ (ld_blt I hg hm boot_tuple (PyProof.Rows.callWith_type1 (args_cons (thn (he pins s σ H _ I h) fun x s1 ⟨r, a, b, t, u, v, H1, ex, hr, I1, ⟨b1, b2, b3, b4, b5⟩, q⟩ => args_nil ?_) na) na))⟩
  subst ex
  refine call_tuple_range (n := (b - a).toNat) (I1.ok.hd hc) hr (small_one b1 b2 b3 b4) (rangeSize_nat a b) b5 fun h' tk acc hk hi => ?_
  have I2 : Inv X pins σ H1 { s1 with heap := h', toks := tk } := I1.kept hk
  have hz : (rgV a b).length ≤ sizeLine := by rw [rgV_length, sizeLine_eq]; omega
  have e : ({ cls := .type "tuple", data := .seq acc } : Obj) = tupO acc.toList := by rw [tupO, Array.toArray_toList]
  rw [e]
  exact ⟨.ref h'.objs.size, _, laidF I2 (vals_rg hi) hz tk, rfl, q _ _ (same_new (I2.hok.fresh (Nat.le_refl _))) tupF_new⟩
/-- (a, b, ..) -/
def tTupD (t : TA) : TE := fun σ H Q => t σ H fun xs H1 => xs.length ≤ sizeLine ∧ ∀ p H2, Same H1 H2 → TupF H2 p xs → Q (.ref p) H2
theorem pe_tupD {es : List Expr} {t : TA} {pos : Pos} {x1} (h : PA X es t) : PE X (.Tuple es x1 pos) (tTupD t) :=
  ⟨fun pins s σ H Q I hq => wpAny_Tuple_spliced (thn (h.run pos pins s σ H _ I hq) fun us s1 ⟨xs, H1, I1, r, z, q⟩ => ⟨by rw [← r.length]; exact z, .ref s1.heap.objs.size, _, laidF I1 r z s1.toks, rfl, q _ _ (same_new (I1.hok.fresh (Nat.le_refl _))) tupF_new⟩)⟩
/-- t + u, t not empty -/
def rCatF : R2 := fun x y H Q => ∃ ts us, ITF H x ts ∧ IR H y us ∧ ts ≠ [] ∧ ts.length + us.length ≤ 100000 ∧ ∀ v H', Same H H' → ITF H' v (ts ++ us) → Q v H'
theorem op_catF : OpR X (binaryOp .Add) rCatF := by
  intro pins s σ H x y v u Q I rx ry ⟨ts, us, ⟨a, ea, ha⟩, ⟨b, eb, hb⟩, ne, len, q⟩
  subst ea eb
  cases rx
  cases ry
  obtain ⟨i1, r1, p1, _⟩ := I.tuple (.inl ha.rd)
  obtain ⟨i2, r2, p2, _⟩ := I.tuple (.inl hb)
  have hz : (ts.map V.int ++ us.map V.int).length ≤ sizeLine := by
    rw [List.length_append, List.length_map, List.length_map]
    exact szl len
  refine HT.cat_tup p1 p2 (fun z => ne (List.map_eq_nil_iff.mp (r1.nil_iff.mp z))) (fun z => ⟨.ref a, H, I, rfl, q _ _ (same_refl0 H) ⟨a, rfl, ?_⟩⟩) (fun z => ?_) (by rw [← r1.length, ← r2.length, ← List.length_append]; exact hz)
  · have e : us = [] := List.map_eq_nil_iff.mp (r2.nil_iff.mp z)
    rw [e, List.append_nil]
    exact ha
  · refine ⟨.ref s.heap.objs.size, _, laidF I (r1.append r2) hz s.toks, rfl, q _ _ (same_new (I.hok.fresh (Nat.le_refl _))) ⟨_, rfl, ?_⟩⟩
    rw [List.map_append]
    exact tupF_new
end
end WR

-- part: WREnum
set_option Elab.async false
set_option linter.all false
set_option maxRecDepth 100000
set_option maxHeartbeats 4000000
/-! enumerate(t), t a tuple; a chain of three comparisons; t[::-1]; t += u; a big power. -/
namespace WR
open PySem PySem.Spec PyProof.Rows L2
open AutoSeq1 (wpAny_loadPart')
abbrev itO (l : Addr) : Obj := { cls := .type "tuple_iterator", data := .fields #[.ref l, .int 0 0] }
abbrev enO (it : Addr) : Obj := { cls := .type "enumerate", data := .fields #[.none, .bool false, .ref it, rawInt 0, .none, .none] }
theorem meets_enumT (l : Addr) (items : Array Value) (n : Nat) (dct : Option Addr) (sl : Array (Option Value)) :
    Meets (Builtin.«enumerate.__new__» ⟨[.type "enumerate", .ref l], []⟩) (fun _ R s => s.heap.get? l = some { cls := .type "tuple", dict := dct, data := .seq items n, slots := sl } ∧
      R (.ok (.ret (.ref (s.heap.push (itO l)).objs.size))) { s with heap := (s.heap.push (itO l)).push (enO s.heap.objs.size) }) := .of_wp fun prog w A R s h => by
  obtain ⟨hp, g, d, tk, os⟩ := s
  obtain ⟨hl, h⟩ := h
  have f1 := sub_enumerate
  have f2 : Heap.IsTuple (Shared.heap ⟨hp, g, d, tk, os⟩) l items := ⟨_, hl, rfl, n, rfl⟩
  wp_walk using wpAny_loadPart' hl
  refine wpAny_stack_any fun st => wpAny_pure ?_
  split
  · rename_i c _ _ _ _ _
    cases (c == Value.type "enumerate") <;> wp_walk using wpAny_loadPart' hl, wpAny_pyIter_tuple f2 <;> exact ⟨_, rfl, h⟩
  · wp_walk using wpAny_loadPart' hl, wpAny_pyIter_tuple f2
    exact ⟨_, rfl, h⟩
theorem call_enumT {prog : Program} {w : World} {A : Around} {E : Value → Shared → Prop} {s : Shared} {l : Addr} {items : Array Value} {Q : Value → Shared → Prop} (hL : s.heap.IsTuple l items)
    (h : ∀ h', IsEnum h' (s.heap.objs.size + 1) s.heap.objs.size 0 .none → h'.IsTupleIter s.heap.objs.size l 0 → Kept s.heap h' → Q (.ref (s.heap.objs.size + 1)) { s with heap := h' }) : wpAny (model prog w) A (call (.type "enumerate") [.ref l]) Q E s := by
  obtain ⟨⟨c, dct, dt, sl⟩, hl, hc, n, hd⟩ := hL
  obtain rfl : c = .type "tuple" := hc
  obtain rfl : dt = .seq items n := hd
  refine callType_new F.called_enumerate (by decide) (F.typeCall_enumerate_1 _) (F.newCall_enumerate_1 _) (fun obj => F.args_object_init_2 obj _) F.entry_enumerate_new (meets_enumT l items n dct sl) ⟨hl, ?_⟩
  have z : (s.heap.push (itO l)).objs.size = s.heap.objs.size + 1 := Heap.size_push ..
  have e1 : ((s.heap.push (itO l)).push (enO s.heap.objs.size)).get? (s.heap.objs.size + 1) = some (enO s.heap.objs.size) := by
    rw [← z]
    exact Heap.get?_push_size _ rfl
  show _ ∧ _
  rw [z]
  exact ⟨⟨_, e1, rfl⟩, h _ e1 ⟨_, Heap.get?_push_of_some _ (Heap.get?_push_size _ rfl), rfl, rfl⟩ fun b o e => Heap.get?_push_of_some _ (Heap.get?_push_of_some _ e)⟩
/-- the tuple at a, each item in a new pair -/
def ItEt (K : PySem.W.Frag) (a : Addr) : It :=
  ⟨fun i H => ∃ (xs : List V) (x : V), SqT K H a xs ∧ xs[i]? = some x, fun i H v H' => ∃ T x, v = .ref T ∧ H T = none ∧ H' = upd H T (.tup [.int (i : Nat), x]) ∧ ∀ xs, SqT K H a xs → xs[i]? = some x, fun i H => ∃ xs : List V, SqT K H a xs ∧ xs.length ≤ i⟩
theorem turn_enumT {P : Program} {w : World} {K : PySem.W.Frag} {elts : List Expr} {kk : Nat} {tpos : Pos} (a e it : Addr) : Turn P w K (.Tuple elts kk tpos) (ItEt K a) [e, it] e (fun i h => (∃ old, IsEnum h e it ((i : Nat) : Int) old) ∧ h.IsTupleIter it a i ∧ e ≠ it) where
  mem := List.mem_cons_self
  obj := fun i h ⟨⟨old, he⟩, ⟨o, ho, hc, hd⟩, _⟩ b hb => by
    rcases List.mem_cons.mp hb with z | z
    · subst z
      exact ⟨_, he, nofun⟩
    · obtain rfl := List.mem_singleton.mp z
      exact ⟨o, ho, fun v q => by rw [hd] at q; exact nomatch q⟩
  keep := fun i h h' ⟨⟨old, he⟩, hi, hne⟩ k => ⟨⟨old, k e (by simp) _ he⟩, hi.at fun o q => k it (by simp) o q, hne⟩
  item := by
    intro X hP hw hK hc i pins s σ H E I hf ⟨⟨old, he⟩, hit, hne⟩ ⟨xs, x, hq, hx⟩
    subst hP hw hK
    obtain ⟨its, rv, ⟨o, ho, hcl, n, hd⟩, hz⟩ := I.tuple hq
    obtain ⟨u, hu, ru⟩ := rv.get hx
    have hel : e < s.heap.objs.size := Heap.lt_size he
    have hil : it < s.heap.objs.size := by obtain ⟨_, q, _⟩ := hit; exact Heap.lt_size q
    obtain ⟨f0, f1, f2, f3, f4, f5⟩ := hf it (by simp)
    have hai : a ≠ it := fun z => by
      subst z
      obtain ⟨o2, h2, c2, _⟩ := hit
      rw [ho] at h2
      cases h2
      rw [hcl] at c2
      injection c2 with c2
      exact absurd c2 (by decide)
    have hae : e ≠ a := fun z => by
      subst z
      rw [he] at ho
      cases ho
      injection hcl with c2
      exact absurd c2 (by decide)
    have D := Draws.tuple (prog := X.prog) (w := X.w) (A := X.A.in1) (by simp [I.ok.hd hc]) it a hai its.toArray
    have hlt : i < its.toArray.size := by
      have z := (List.getElem?_eq_some_iff.mp hu).1
      simpa using z
    refine wpAny_pyNext_enum_itemD D he ⟨hit, ⟨o, ho, hcl, n, hd⟩⟩ hlt hne (by simp [hne, hae]) fun x' h' tk hx' heo hst hT _ hk => ?_
    have ex : x' = u := by
      have q : its.toArray[i]? = some x' := hx'
      rw [List.getElem?_toArray, hu] at q
      exact (Option.some.inj q).symm
    subst ex
    refine ⟨_, rfl, wpAny_letOwnedTupleGo_enum (s := { s with heap := h', toks := tk + 1 }) heo fun h'' he' sb => ?_⟩
    have hT2 : h''.get? s.heap.objs.size = some { cls := .type "tuple", data := .seq #[.int i tk, x'] } := (sb.2 _ (Nat.ne_of_gt hel)).trans hT
    have new : ObjOk X.prog X.w (upd H s.heap.objs.size (.tup [.int (i : Nat), x])) h'' s.heap.objs.size (.tup [.int (i : Nat), x]) := ⟨by show 2 ≤ sizeLine; decide, [.int i tk, x'], .cons ⟨_, rfl⟩ (.cons ru .nil), _, hT2, rfl, _, rfl⟩
    have I1 : Inv X pins σ (upd H s.heap.objs.size (.tup [.int (i : Nat), x])) { s with heap := h'', toks := tk + 1 } :=
      I.turnedNew (ch := [e, it]) (fun b ob hb q => (sb.2 b fun z => hb (by simp [z])).trans (hk b ob (fun z => hb (by simp [z])) (fun z => hb (by simp [z])) q)) hf (Nat.le_refl _) new
    refine ⟨.ref s.heap.objs.size, _, I1, rfl, ⟨_, x, rfl, I.hok.fresh (Nat.le_refl _), rfl, fun ys hy => by rw [I.tuple_inj hy hq]; exact hx⟩, ⟨⟨x', ?_⟩, hst.1.at fun o q => (sb.2 it (Ne.symm hne)).trans q, hne⟩, fun b hb => ?_⟩
    · rw [show ((i + 1 : Nat) : Int) = (i : Int) + 1 by omega]
      exact he'
    · have hb' : b < s.heap.objs.size := by
        rcases List.mem_cons.mp hb with z | z
        · rw [z]
          exact hel
        · rw [List.mem_singleton.mp z]
          exact hil
      rw [upd_ne (Nat.ne_of_lt hb')]
      exact (hf b hb).1
  done := by
    intro X hP hw hK hc i pins s σ H E I hf ⟨⟨old, he⟩, hit, hne⟩ ⟨xs, hq, hx⟩
    subst hP hw hK
    obtain ⟨its, rv, ⟨o, ho, hcl, n, hd⟩, hz⟩ := I.tuple hq
    obtain ⟨f0, f1, f2, f3, f4, f5⟩ := hf it (by simp)
    have hl := rv.length
    have hT : s.TypeIs (.ref e) "enumerate" := ⟨_, he, rfl⟩
    unfold pyNext
    refine wpAny_bind (wpAny_attempt (wpAny_callSpecial?_slot (name := Str.ofString "__next__") hT F.slot_enumerate_next (wpAny_call_entry F.slot_enumerate_next hT F.entry_enumerate_next ?_ (F.args_enumerate_next_1 _))))
    have hA : X.A.in1.handled = none := by simp [I.ok.hd hc]
    refine (show wpAny _ _ (field (.ref e) 2 >>= _) _ _ s from wpAny_bind (wpAny_field he rfl (x := .ref it) rfl (wpAny_bind (wpAny_nextOf_tuple_end hA hit ⟨o, ho, hcl, n, hd⟩ (by simp; omega) fun h' x eb hx' => ?_))))
    obtain ⟨ox, hox, hcx⟩ := hx'
    exact wpAny_bind (wpAny_isInstance (T := "StopIteration") (b := true) ⟨ox, hox, hcx⟩ isSubtype_stop (wpAny_pure ⟨rfl, I.turned (t' := s.toks) (fun b o hb q => eb b o hb q) f0 f1 f3 f4 f5⟩))
  self := fun A i s Q E ⟨⟨_, he⟩, _⟩ h => wpAny_pyIter_enum he h
def iEnumT (K : PySem.W.Frag) (ta : TA) : TI := fun σ H R => ta σ H fun vs H1 => ∃ a xs, vs = [.ref a] ∧ SqT K H1 a xs ∧ R (ItEt K a) H1
theorem pi_enumT {X : Cx} {e : Expr} {ta : TA} {p pos tpos : Pos} {elts : List Expr} {kk : Nat} (hg : Gl X "enumerate") (hm : X.mg "enumerate" = none) (ha : PA X [e] ta) (hs : starEach [e] X.env = [(false, eval e X.env)] := by rfl) :
    PI X (.Tuple elts kk tpos) (.Call (.Name "enumerate" p) [e] [] pos) (iEnumT X.K ta) := by
  refine ⟨fun pins s σ H R I h => Call_ (ld_blt I hg hm boot_enumerate (PyProof.Rows.callWith_type1 (thn (ha.run pos pins s σ H _ I h) fun us s1 ⟨vs, H1, I1, r1, a, xs, ex, hq, q⟩ => ?_) hs rfl))⟩
  subst ex
  rw [Vals.ref1 r1]
  obtain ⟨its, rv, ⟨o, ho, hcl, n, hd⟩, hz⟩ := I1.tuple hq
  refine call_enumT (items := its.toArray) ⟨o, ho, hcl, n, hd⟩ fun h' he hit hk => wpAny_pyIter_enum he ?_
  have I2 : Inv X pins σ H1 { s1 with heap := h' } := I1.kept (t' := s1.toks) hk
  refine ⟨s1.heap.objs.size + 1, [s1.heap.objs.size + 1, s1.heap.objs.size], _, _, H1, rfl, I2, turn_enumT a (s1.heap.objs.size + 1) s1.heap.objs.size, ⟨⟨.none, he⟩, hit, Nat.succ_ne_self _⟩, fun b hb => ?_, q⟩
  have hle : s1.heap.objs.size ≤ b := by
    rcases List.mem_cons.mp hb with z | z
    · rw [z]
      exact Nat.le_succ _
    · rw [List.mem_singleton.mp z]
      exact Nat.le_refl _
  exact I1.fpOk hle (I1.hok.fresh hle)
end WR

-- part: WRMisc
set_option Elab.async false
set_option linter.all false
set_option maxRecDepth 100000
set_option maxHeartbeats 4000000
/-! A chain of three comparisons; t[::-1]; t += u; a power; is, is not. -/
namespace WR
open PySem PySem.Spec PyProof.Rows L2
section
variable {X : Cx}
/-- a op1 b op2 c op3 d, as a test -/
def tChain3 (r r' r'' : R2) (ta tb tc td : TE) : TE := fun σ H Q => ta σ H fun x H1 => tb σ H1 fun y H2 => r x y H2 fun z H3 => ∃ k, z = .bl k ∧
  (if k = true then tc σ H3 fun w' H4 => r' y w' H4 fun z' H5 => ∃ k', z' = .bl k' ∧ (if k' = true then td σ H5 fun v' H6 => r'' w' v' H6 Q else Q (.bl false) H5) else Q (.bl false) H3)
theorem pt_chain3 {a b c d : Expr} {ta tb tc td : TE} {pos : Pos} {op op' op'' : CmpOp} {r r' r'' : R2} (ho : OpR X (compareOp op) r) (ho' : OpR X (compareOp op') r') (ho'' : OpR X (compareOp op'') r'') (ha : PE X a ta) (hb : PE X b tb) (hc : PE X c tc) (hd : PE X d td)
    (hm : lastMarks [op, op', op''] [b, c, d] = false := by with_unfolding_all rfl) : PT X (.Compare a [op, op', op''] [b, c, d] pos) (tTest (tChain3 r r' r'' ta tb tc td)) := by
  refine ⟨fun pins s σ H Q I h => isTrue_chain (thn (ha.run pins s σ H _ I h) fun v s1 ⟨x, H1, I1, r1, q1⟩ => test_link (thn (hb.run pins s1 σ H1 _ I1 q1) fun u s2 ⟨y, H2, I2, r2, q2⟩ =>
    thn (ho pins s2 σ H2 x y v u _ I2 r1 r2 q2) fun e s3 ⟨z, H3, I3, r3, k, ez, q3⟩ => ?_)) hm⟩
  subst ez
  cases r3
  refine wpAny_truthy_bool ?_
  cases k with
  | false =>
    obtain ⟨k', e', q'⟩ := q3
    cases e'
    exact ite_ff ⟨H3, I3, q'⟩
  | true =>
    refine ite_tt (test_link (thn (hc.run pins s3 σ H3 _ I3 q3) fun w' s4 ⟨z', H4, I4, r4, q4⟩ => thn (ho' pins s4 σ H4 y z' u w' _ I4 r2 r4 q4) fun d' s5 ⟨z2, H5, I5, r5, k2, e2, q5⟩ => ?_))
    subst e2
    cases r5
    refine wpAny_truthy_bool ?_
    cases k2 with
    | false =>
      obtain ⟨k', e', q'⟩ := q5
      cases e'
      exact ite_ff ⟨H5, I5, q'⟩
    | true =>
      refine ite_tt (test_last (thn (hd.run pins s5 σ H5 _ I5 q5) fun w6 s6 ⟨z6, H6, I6, r6, q6⟩ => thn (ho'' pins s6 σ H6 z' z6 w' w6 _ I6 r4 r6 q6) fun d7 s7 ⟨z7, H7, I7, r7, k7, e7, q7⟩ => ?_))
      subst e7
      cases r7
      exact wpAny_truthy_bool ⟨H7, I7, q7⟩

/-! ### t += u -/
theorem no_tup_iadd : typeLookup (.type "tuple") (dunderI "add") = pure none := by rw [typeLookup_type, builtinLookup_eq_fast]; kernel_rfl
theorem iop_catA : OpR X (inplaceOp .Add) (rCatA X.K) := by
  intro pins s σ H x y v u Q I rx ry h
  obtain ⟨a, b, xs, ys, rfl, rfl, ha, hb, hz, q0, q1, q2⟩ := h
  cases rx
  cases ry
  obtain ⟨vs, r1, ⟨⟨c1, d1, dt1, l1⟩, h1, e1, n1, f1⟩, _⟩ := I.tuple ha
  obtain ⟨ws, r2, ⟨⟨c2, d2, dt2, l2⟩, h2, e2, n2, f2⟩, _⟩ := I.tuple hb
  simp only at e1 f1 e2 f2
  subst e1 f1 e2 f2
  refine wpAny_inplaceOp_concat (T := "tuple") ⟨_, h1, rfl⟩ ⟨_, h2, rfl⟩ no_tup_iadd noFill_tuple_add seq_tuple_add ?_
  by_cases hv : vs = []
  · subst hv
    cases r1
    exact call_meets PySem.F.slot_tuple_add ⟨_, h1, rfl⟩ PySem.F.entry_tuple_add (PySem.F.args_tuple_add_2 _ _) (tuple_addW0 a b ([] : List Value).toArray ws.toArray n1 n2 d1 d2 l1 l2 rfl) ⟨h1, h2, .ref b, H, I, rfl, q0 rfl⟩
  · have hx : xs ≠ [] := fun z => hv (r1.nil_iff.mpr z)
    by_cases hw : ws = []
    · exact call_meets PySem.F.slot_tuple_add ⟨_, h1, rfl⟩ PySem.F.entry_tuple_add (PySem.F.args_tuple_add_2 _ _) (tuple_addW1 a b vs.toArray ws.toArray n1 n2 d1 d2 l1 l2 (by simpa using hv) (by simp [hw])) ⟨h1, h2, .ref a, H, I, rfl, q1 hx (r2.nil_iff.mp hw)⟩
    · have hy : ys ≠ [] := fun z => hw (r2.nil_iff.mpr z)
      have hz2 : vs.toArray.size + ws.toArray.size ≤ sizeLine := by
        rw [List.size_toArray, List.size_toArray, ← r1.length, ← r2.length]
        exact hz
      refine call_meets PySem.F.slot_tuple_add ⟨_, h1, rfl⟩ PySem.F.entry_tuple_add (PySem.F.args_tuple_add_2 _ _) (tuple_addW2 a b vs.toArray ws.toArray n1 n2 d1 d2 l1 l2 (by simpa using hv) (by simpa using hw) hz2) ⟨h1, h2, ?_⟩
      have e : vs.toArray ++ ws.toArray = (vs ++ ws).toArray := by simp
      rw [e]
      refine ⟨.ref s.heap.objs.size, _, I.laid (t' := s.toks) (o := .tup (xs ++ ys)) (fun b ob q => Heap.get?_push_of_some _ q) (Nat.le_refl _) ⟨?_, _, r1.append r2, IsTup.new _ _⟩, rfl, q2 hx hy _ (I.hok.fresh (Nat.le_refl _))⟩
      rw [List.length_append]
      exact hz
theorem ip_catA : PIp X .Add (rCatA X.K) := fun pins s σ H x y v u Q I r1 r2 h => iop_catA pins s σ H x y v u Q I r1 r2 h
theorem ip_mul : PIp X .Mult (rI CMul fun i j => .int (i * j)) := fun pins s σ H x y v u Q I r1 r2 h => iop_mul pins s σ H x y v u Q I r1 r2 h

/-! ### a power -/
def rPow (i j : Int) : R2 := fun x y H Q => x = .int i ∧ y = .int j ∧ 0 ≤ j ∧ (Builtin.Int.intBits i : Int) * j ≤ 2 ^ 27 ∧ Q (.int (i ^ j.toNat)) H
def rPowW : R2 := fun x y H Q => ∃ i j, rPow i j x y H Q
theorem op_powW : OpR X (binaryOp .Pow) rPowW := by
  intro pins s σ H x y v u Q I rx ry ⟨i, j, e1, e2, h1, h2, q⟩
  subst e1 e2
  obtain ⟨t, rfl⟩ := rx
  obtain ⟨t', rfl⟩ := ry
  exact pow_int h1 h2 ⟨.int (i ^ j.toNat), H, I.tok _, ⟨_, rfl⟩, q⟩

/-! ### t[::-1] -/
theorem adj_rev (n : Nat) : Builtin.Slice.sliceAdjust none none (-1) (n : Int) = ((n : Int) - 1, -1) := rfl
theorem places_rev (n : Nat) : Builtin.Slice.slicePlaces ((n : Int) - 1) (-1) (-1) = n := by
  unfold Builtin.Slice.slicePlaces
  rw [if_neg (by omega)]
  by_cases h : (n : Int) - 1 > -1
  · rw [if_pos h]
    have e : ((n : Int) - 1 - -1 - 1) / -(-1) + 1 = n := by
      rw [show -(-1 : Int) = 1 from rfl, Int.ediv_one]
      omega
    rw [e]
    rfl
  · rw [if_neg h]
    have z : n = 0 := by omega
    rw [z]
    rfl
theorem pick_rev (xs : List Value) : ((List.range xs.length).filterMap fun (k : Nat) => xs.toArray[(((xs.length : Nat) : Int) - 1 + (k : Int) * -1).toNat]?) = xs.reverse := by
  have key : ∀ m, m ≤ xs.length → ((List.range m).filterMap fun (k : Nat) => xs.toArray[(((xs.length : Nat) : Int) - 1 + (k : Int) * -1).toNat]?) = xs.reverse.take m := by
    intro m
    induction m with
    | zero => intro _; rfl
    | succ m ih =>
      intro h
      rw [List.range_succ, List.filterMap_append, ih (by omega), List.take_succ]
      have e : (((xs.length : Nat) : Int) - 1 + (m : Int) * -1).toNat = xs.length - 1 - m := by omega
      have e2 : xs.reverse[m]? = some xs[xs.length - 1 - m] := by
        rw [List.getElem?_reverse (by omega), List.getElem?_eq_getElem (by omega)]
      rw [e2]
      rw [List.filterMap_cons_some (b := xs[xs.length - 1 - m]) (by
        rw [e, List.getElem?_toArray, List.getElem?_eq_getElem (by omega)])]
      rfl
  rw [key _ (Nat.le_refl _), ← List.length_reverse, List.take_length]
theorem part_any {prog : Program} {w : World} {A : Around} {E : Value → Shared → Prop} {s : Shared} {v : Value} {o : Option Int} {Q : Option Int → Shared → Prop} (p : IsPart v o) (h : Q o s) : wpAny (model prog w) A (Builtin.Slice.slicePartIndex v) Q E s := by
  cases p with
  | none => exact slicePart_none h
  | int i t => exact slicePart_int h
theorem getItem_tuple_rev {prog : Program} {w : World} {A : Around} {E : Value → Shared → Prop} {s : Shared} {t sl : Addr} {items : List Value} {vl vu vs : Value} {Q : Value → Shared → Prop} (ht : IsTup s.heap t items.toArray) (hs : s.heap.IsSliceOf sl vl vu vs) (pl : IsPart vl none)
    (pu : IsPart vu none) (ps : IsPart vs (some (-1))) (hz : items.length ≤ sizeLine) (h : Q (.ref s.heap.objs.size) { s with heap := s.heap.push { cls := .type "tuple", data := .seq items.reverse.toArray } }) : wpAny (model prog w) A (getItem (.ref t) (.ref sl)) Q E s := by
  obtain ⟨os, hos, hcs, hds⟩ := id hs
  have hT : s.TypeIs (.ref sl) "slice" := ⟨os, hos, hcs⟩
  unfold getItem
  try with_reducible refine wpAny_holding ?_
  first | refine wpAny_bind (wpAny_pure ?_) | skip
  refine wpAny_bind (wpAny_sequenceKey ht.typeIs (by decide) (wpAny_bind (wpAny_callSpecial?_slot (name := Str.ofString "__getitem__") ht.typeIs PyProof.Rows.slot_tuple_getitem (wpAny_call_entry PyProof.Rows.slot_tuple_getitem ht.typeIs entry_tuple_getitem ?_ (args_tuple_getitem _ _)))))
  refine (show wpAny _ _ (Builtin.Tuple.tupleItemsOf (.ref t) >>= _) _ _ s from wpAny_bind (tupleItemsOf_ ht (wpAny_bind (wpAny_typeOf hT ?_))))
  rw [if_pos (by decide)]
  refine wpAny_bind ?_
  unfold Builtin.Slice.sliceApplied Builtin.Slice.sliceFields
  refine wpAny_bind (wpAny_bind (wpAny_field hos hds (x := vl) rfl (wpAny_bind (wpAny_field hos hds (x := vu) rfl (wpAny_bind (wpAny_field hos hds (x := vs) rfl (wpAny_pure ?_)))))))
  refine wpAny_bind (part_any ps ?_)
  refine (show wpAny _ _ (if ((-1 : Int) == 0) = true then _ else _) _ _ s from wp_if_neg (by decide) (wpAny_bind (part_any pl (wpAny_bind (part_any pu (wpAny_bind (wpAny_pure ?_)))))))
  show wpAny _ _ (match Builtin.Slice.sliceAdjust none none (-1) (items.toArray.size : Int) with | (lo, hi) => pure (lo, (-1 : Int), Builtin.Slice.slicePlaces lo hi (-1))) _ _ s
  rw [adj_rev]
  refine wpAny_pure ?_
  dsimp only
  rw [places_rev, List.size_toArray, pick_rev]
  have zok : sizeOk (.seq items.reverse.toArray) := by
    show items.reverse.toArray.size ≤ sizeLine
    rw [List.size_toArray, List.length_reverse]
    exact hz
  refine wp_if_neg (by simp) ?_
  first
    | exact wpAny_bind (m := Builtin.Tuple.tupleExact _) (wpAny_newObj_type (wpAny_pure ⟨_, rfl, wpAny_pure h⟩) zok)
    | exact wpAny_bind (m := Builtin.Tuple.tupleExact _) (wpAny_newObj_type (wpAny_bind (wpAny_pure (wpAny_pure ⟨_, rfl, wpAny_pure h⟩))) zok)
    | exact wpAny_bind (wpAny_bind (m := Builtin.Tuple.tupleExact _) (wpAny_newObj_type (wpAny_pure (wpAny_pure ⟨_, rfl, wpAny_pure h⟩)) zok))
def tRevT (te : TE) : TE := fun σ H Q => te σ H fun x H1 => ∃ a xs, x = .ref a ∧ Rd H1 a (.tup xs) ∧ ∀ p H2, Same H1 H2 → TupF H2 p xs.reverse → Q (.ref p) H2
theorem pe_revT {e : Expr} {te : TE} {k : Nat} {p1 p2 p3 pos : Pos} (he : PE X e te) : PE X (.Subscript e (.Slice none none (some (.UnaryOp .USub (.Constant (.int 1) k p1) p2)) p3) pos) (tRevT te) := by
  refine ⟨fun pins s σ H Q I h => Subscript_ (thn (he.run pins s σ H _ I h) fun v s1 ⟨x, H1, I1, r1, a, xs, ex, hx, q⟩ => ?_)⟩
  subst ex
  cases r1
  have hst : PO X (some (.UnaryOp .USub (.Constant (.int 1) k p1) p2)) (tPart (tUn (rU fun i => .int (-i)) (tC (.int 1)))) := po_some (pe_un un_neg pe_int)
  refine wpAny_Slice (thn (po_none.run pins s1 σ H1 (fun o H2 => o = none ∧ H2 = H1) I1 ⟨rfl, rfl⟩) fun vl s2 ⟨l, H2, I2, pl, el, e2⟩ => thn (po_none.run pins s2 σ H2 (fun o H3 => o = none ∧ H3 = H2) I2 ⟨rfl, rfl⟩) fun vu s3 ⟨u, H3, I3, pu, eu, e3⟩ => ?_)
  subst el e2 eu e3
  refine thn (hst.run pins s3 σ H3 (fun o H4 => o = some (-1) ∧ H4 = H3) I3 ⟨1, rfl, -1, rfl, rfl, rfl⟩) fun vs s4 ⟨o, H4, I4, ps, eo, e4⟩ => ?_
  subst eo e4
  have I5 : Inv X pins σ H4 { s4 with heap := s4.heap.push { cls := .type "slice", data := .fields #[vl, vu, vs] } } := I4.kept (t' := s4.toks) fun b ob q => Heap.get?_push_of_some _ q
  obtain ⟨its, r, ht, hz⟩ := I5.tuple (.inl hx)
  refine (show wpAny (model X.prog X.w) X.A (subscriptTail e (.Slice none none (some (.UnaryOp .USub (.Constant (.int 1) k p1) p2)) p3) (.ref a) (.ref s4.heap.objs.size)) (EP X pins σ Q) X.xe { s4 with heap := s4.heap.push { cls := .type "slice", data := .fields #[vl, vu, vs] } } from
    tail_any (ops := [.ref a, .ref s4.heap.objs.size]) ht.typeIs PyProof.Rows.slot_tuple_getitem.lookup ?_ (by with_unfolding_all rfl))
  refine getItem_tuple_rev ht (Heap.IsSliceOf.new _ vl vu vs) pl pu ps (by rw [← r.length]; exact hz) ?_
  exact ⟨.ref _, _, laidF I5 r.reverse (by rw [List.length_reverse]; exact hz) s4.toks, rfl, q _ _ (same_new (I5.hok.fresh (Nat.le_refl _))) tupF_new⟩
end
end WR

-- part: WRLc
set_option Elab.async false
set_option linter.all false
set_option maxRecDepth 100000
set_option maxHeartbeats 4000000
/-! Comprehensions whose steps leave alone what stands. -/
namespace WR
open PySem PySem.Spec PyProof.Rows L2
/-- a source of n items that stands still -/
structure Src (J : It) (H1 : Hp) (n : Nat) (it : Nat → V) : Prop where
  go : ∀ j H, j < n → Same H1 H → J.go j H
  yld : ∀ j H x H', j < n → Same H1 H → J.yld j H x H' → x = it j ∧ H' = H
  stop : ∀ j H, n ≤ j → Same H1 H → J.stop j H
theorem src_rng (lo : Int) (n : Nat) (H1 : Hp) : Src (Itr lo n) H1 n fun j => .int (lo + (j : Nat)) := ⟨fun _ _ h _ => h, fun j H x H' _ _ ⟨h1, h2⟩ => ⟨h2, h1⟩, fun _ _ h _ => h⟩
theorem src_tup {K : PySem.W.Frag} {H1 : Hp} {a : Addr} {xs : List V} (h : H1 a = some (.tup xs)) : Src (Itt K a) H1 xs.length fun j => xs.getD j .non where
  go := fun j H hj s => ⟨xs, xs[j], .inl (.inl (s _ _ h)), List.getElem?_eq_getElem hj⟩
  yld := fun j H x H' hj s ⟨e, y⟩ => by
    have q := y xs (.inl (.inl (s _ _ h)))
    exact ⟨by rw [List.getD_eq_getElem?_getD, q]; rfl, e⟩
  stop := fun j H hj s => ⟨xs, .inl (.inl (s _ _ h)), hj⟩
theorem src_tupR {K : PySem.W.Frag} {H1 : Hp} {a : Addr} {xs : List V} (h : ∀ H, Same H1 H → Rd H a (.tup xs)) : Src (Itt K a) H1 xs.length fun j => xs.getD j .non where
  go := fun j H hj s => ⟨xs, xs[j], .inl (h H s), List.getElem?_eq_getElem hj⟩
  yld := fun j H x H' hj s ⟨e, y⟩ => by
    have q := y xs (.inl (h H s))
    exact ⟨by rw [List.getD_eq_getElem?_getD, q]; rfl, e⟩
  stop := fun j H hj s => ⟨xs, .inl (h H s), hj⟩
theorem src_tupF {K : PySem.W.Frag} {H1 : Hp} {a : Addr} {xs : List V} (h : TupF H1 a xs) : Src (Itt K a) H1 xs.length fun j => xs.getD j .non := src_tupR fun H s => (h.same s).rd
theorem src_lst {K : PySem.W.Frag} {H1 : Hp} {a : Addr} {xs : List V} (h : H1 a = some (.lst xs)) : Src (Itl K a) H1 xs.length fun j => xs.getD j .non where
  go := fun j H hj s => ⟨xs, xs[j], .inl (.inl (s _ _ h)), List.getElem?_eq_getElem hj⟩
  yld := fun j H x H' hj s ⟨e, y⟩ => by
    have q := y xs (.inl (.inl (s _ _ h)))
    exact ⟨by rw [List.getD_eq_getElem?_getD, q]; rfl, e⟩
  stop := fun j H hj s => ⟨xs, .inl (.inl (s _ _ h)), hj⟩
theorem same_refl (H : Hp) : Same H H := fun _ _ e => e
theorem same_trans {H H' H'' : Hp} (a : Same H H') (b : Same H' H'') : Same H H'' := fun x o e => b x o (a x o e)
theorem p_snoc {α β : Type} {F : α → β → Prop} {l₁ : List α} {l₂ : List β} (h : Paired F l₁ l₂) {a : α} {b : β} (r : F a b) : Paired F (l₁ ++ [a]) (l₂ ++ [b]) := by
  induction h with
  | nil => exact .cons r .nil
  | cons r' _ ih => exact .cons r' ih
theorem p_len {α β : Type} {F : α → β → Prop} {l₁ : List α} {l₂ : List β} (h : Paired F l₁ l₂) : l₁.length = l₂.length := Paired.length h
/-- all but lists is kept -/
def SameN (H H' : Hp) : Prop := ∀ a o, (∀ xs, o ≠ HO.lst xs) → H a = some o → H' a = some o
theorem same_n {H H' : Hp} (s : Same H H') : SameN H H' := fun a o _ e => s a o e
theorem SameN.mut {H : Hp} {D : Addr} {xs : List V} {o : HO} (h : H D = some (.lst xs)) : SameN H (upd H D o) := fun a u n e => by
  have ne : a ≠ D := fun z => by
    rw [z, h] at e
    exact n xs (Option.some.inj e).symm
  rw [upd_ne ne]
  exact e
theorem IT.n {H H' : Hp} {v : V} {ts : List Int} (s : SameN H H') (h : IT H v ts) : IT H' v ts := by
  obtain ⟨a, e, h⟩ := h
  exact ⟨a, e, s _ _ nofun h⟩
theorem Its.n {H H' : Hp} {vs : List V} {ws : List (List Int)} (s : SameN H H') (h : Its H vs ws) : Its H' vs ws := Paired.mapP h fun _ _ => IT.n s
theorem TupF.n {H H' : Hp} {a : Addr} {vs : List V} (s : SameN H H') (h : TupF H a vs) : TupF H' a vs := by
  obtain ⟨o, h, r⟩ := h
  exact ⟨o, s _ _ nofun h, r⟩
theorem WT.n {H H' : Hp} {v : V} {ws : List (List Int)} (s : SameN H H') (h : WT H v ws) : WT H' v ws := by
  obtain ⟨a, vs, e, h, i⟩ := h
  exact ⟨a, vs, e, h.n s, i.n s⟩
theorem IR.n {H H' : Hp} {v : V} {ts : List Int} (s : SameN H H') (h : IR H v ts) : IR H' v ts := by
  obtain ⟨a, e, h⟩ := h
  refine ⟨a, e, ?_⟩
  rcases h with h | ⟨o, h⟩
  · exact .inl (s _ _ nofun h)
  · exact .inr ⟨o, s _ _ nofun h⟩
/-- what a comprehension's reading asks, once its source is known and its list laid at D -/
def LcG (J : It) (g : TG) (tt : TT) (te : TE) (vs : List Nat) (σ : L2.St) (H1 : Hp) (D : Addr) (Qd : Hp → Prop) : Prop := ∃ W : Nat → Nat → Hp → Prop,
  (∃ m, W 0 m (upd H1 D (.lst []))) ∧ ∀ i m H, W i m H → (J.stop i H ∧ Qd H) ∨ (J.go i H ∧ ∃ Nx : Hp → Prop,
    (∀ H', Nx H' → ∃ m', m' < m ∧ W (i + 1) m' H') ∧ ∀ x H', J.yld i H x H' →
      g x (wipe σ vs) H' fun σ2 H2 => wipe σ2 vs = wipe σ vs ∧ tt σ2 H2 fun b H3 => if b = true then te σ2 H3 fun y H4 => ∃ acc, H4 D = some (.lst acc) ∧ acc.length < sizeLine ∧ Nx (upd H4 D (.lst (acc ++ [y])))
        else Nx H3)
theorem lc_same {β : Type} {J : It} {i : Nat} {σ : L2.St} {H1 : Hp} {tt : TT} {te : TE} {D : Addr} {Qd : Hp → Prop} {n : Nat} {it : Nat → V} (hD : H1 D = none) (src : Src J H1 n it) (G : Nat → Option β) (F : Hp → V → β → Prop) (fs : ∀ H H' v b, SameN H H' → F H v b → F H' v b) (hn : n ≤ 100000)
    (hw : ∀ x, wipe ((wipe σ [i]).set i (some x)) [i] = wipe σ [i]) (ht : ∀ j H, j < n → Same H1 H → ∀ R : Bool → Hp → Prop, (∀ H', Same H H' → R (G j).isSome H') → tt ((wipe σ [i]).set i (some (it j))) H R)
    (he : ∀ j y H, j < n → G j = some y → Same H1 H → ∀ R : VK, (∀ v H', Same H H' → F H' v y → R v H') → te ((wipe σ [i]).set i (some (it j))) H R)
    (hd : ∀ acc H, Same H1 H → H D = some (.lst acc) → Paired (F H) acc ((List.range n).filterMap G) → Qd H) : LcG J (gName i) tt te [i] σ H1 D Qd := by
  refine ⟨fun k m H => m = n - k ∧ k ≤ n ∧ Same H1 H ∧ ∃ acc, H D = some (.lst acc) ∧ Paired (F H) acc ((List.range k).filterMap G), ⟨n, rfl, Nat.zero_le _, same_new hD, [], upd_same, .nil⟩, ?_⟩
  rintro k m H ⟨rfl, hk, s, acc, ha, pa⟩
  by_cases lt : k < n
  · refine .inr ⟨src.go k H lt s, fun H' => k + 1 ≤ n ∧ Same H1 H' ∧ ∃ acc, H' D = some (.lst acc) ∧ Paired (F H') acc ((List.range (k + 1)).filterMap G), fun H' p => ⟨n - (k + 1), by omega, rfl, p⟩, fun x H' y => ?_⟩
    obtain ⟨rfl, rfl⟩ := src.yld k H x H' lt s y
    refine ⟨hw _, ht k _ lt s _ fun H2 s2 => ?_⟩
    have lenA : acc.length ≤ k := by
      have a := p_len pa
      have b := List.length_filterMap_le G (List.range k)
      rw [List.length_range] at b
      omega
    cases g : G k with
    | none =>
      refine (if_neg (show ¬ (false = true) by decide)).mpr ?_
      refine ⟨lt, same_trans s s2, acc, s2 _ _ ha, ?_⟩
      rw [List.range_succ, List.filterMap_append, List.filterMap_cons_none g, List.filterMap_nil, List.append_nil]
      exact Paired.mapP pa fun v b => fs _ _ v b (same_n s2)
    | some y0 =>
      refine (if_pos (show true = true from rfl)).mpr ?_
      refine he k y0 H2 lt g (same_trans s s2) _ fun v H3 s3 f => ⟨acc, s3 _ _ (s2 _ _ ha), Nat.lt_of_lt_of_le (by omega : acc.length < 100000) (by decide), lt, ?_, acc ++ [v], upd_same, ?_⟩
      · exact same_mut (same_trans s (same_trans s2 s3)) hD
      · rw [List.range_succ, List.filterMap_append, List.filterMap_cons_some g, List.filterMap_nil]
        have m : SameN H3 (upd H3 D (.lst (acc ++ [v]))) := SameN.mut (s3 _ _ (s2 _ _ ha))
        exact p_snoc (Paired.mapP pa fun v b z => fs _ _ v b m (fs _ _ v b (same_n (same_trans s2 s3)) z)) (fs _ _ v y0 m f)
  · obtain rfl : k = n := by omega
    exact .inl ⟨src.stop k H (Nat.le_refl _) s, hd acc H s ha pa⟩
theorem range_get {β : Type} (ys : List β) : (List.range ys.length).filterMap (fun j => ys[j]?) = ys := by
  have key : ∀ n, n ≤ ys.length → (List.range n).filterMap (fun j => ys[j]?) = ys.take n := by
    intro n
    induction n with
    | zero => intro _; rfl
    | succ n ih =>
      intro h
      have e := List.getElem?_eq_getElem (l := ys) (i := n) h
      rw [List.range_succ, List.filterMap_append, ih (by omega), List.filterMap_cons_some e, List.take_add_one, e]
      rfl
  rw [key _ (Nat.le_refl _), List.take_length]
/-- each item makes one -/
theorem lc_map {β : Type} {J : It} {i : Nat} {σ : L2.St} {H1 : Hp} {te : TE} {D : Addr} {Qd : Hp → Prop} {it : Nat → V} {ys : List β} {n : Nat} (hD : H1 D = none) (src : Src J H1 n it) (hy : ys.length = n) (F : Hp → V → β → Prop) (fs : ∀ H H' v b, SameN H H' → F H v b → F H' v b) (hn : n ≤ 100000)
    (hw : ∀ x, wipe ((wipe σ [i]).set i (some x)) [i] = wipe σ [i]) (he : ∀ j y H, ys[j]? = some y → Same H1 H → ∀ R : VK, (∀ v H', Same H H' → F H' v y → R v H') → te ((wipe σ [i]).set i (some (it j))) H R)
    (hd : ∀ acc H, Same H1 H → H D = some (.lst acc) → Paired (F H) acc ys → Qd H) : LcG J (gName i) tYes te [i] σ H1 D Qd := by
  subst hy
  refine lc_same hD src (fun j => ys[j]?) F fs hn hw (fun j H hj s R h => ?_) (fun j y H _ e s R h => he j y H e s R h) fun acc H s h2 p => hd acc H s h2 ?_
  · have q := h H (same_refl H)
    rw [List.getElem?_eq_getElem hj] at q
    exact q
  · rw [range_get] at p
    exact p
/-- a list of True -/
theorem p_true {β : Type} {acc : List V} {ys : List β} (p : Paired (fun v _ => v = V.bl true) acc ys) : acc = (ys.map fun _ => true).map V.bl := by
  induction p with
  | nil => rfl
  | cons r _ ih => rw [r, ih]; rfl
theorem all_true {β : Type} (ys : List β) : (ys.map fun _ => true).all id = true := by simp
/-- tuple([..]): a tuple of tuples of ints -/
theorem lct_its {J : It} {i : Nat} {σ : L2.St} {H1 : Hp} {te : TE} {D : Addr} {Q : VK} {it : Nat → V} {ys : List (List Int)} {n : Nat} (hD : H1 D = none) (src : Src J H1 n it) (hy : ys.length = n) (hn : n ≤ 100000)
    (hw : ∀ x, wipe ((wipe σ [i]).set i (some x)) [i] = wipe σ [i]) (he : ∀ j y H, ys[j]? = some y → Same H1 H → ∀ R : VK, (∀ v H', Same H H' → IT H' v y → R v H') → te ((wipe σ [i]).set i (some (it j))) H R)
    (hd : ∀ v H, Same H1 H → WT H v ys → Q v H) : LcG J (gName i) tYes te [i] σ H1 D fun H => kTupF (.ref D) H Q :=
  lc_map hD src hy IT (fun _ _ _ _ s h => IT.n s h) hn hw he fun acc H s h2 p => ⟨D, acc, rfl, h2, fun q H2 s2 f => hd _ _ (same_trans s s2) ⟨q, acc, rfl, f, Its.same s2 p⟩⟩
theorem p_ints {acc : List V} {ys : List Int} (p : Paired (fun v y => v = V.int y) acc ys) : acc = ys.map V.int := by
  induction p with
  | nil => rfl
  | cons r _ ih => rw [r, ih]; rfl
/-- tuple([..]): a tuple of ints -/
theorem lct_ints {K : PySem.W.Frag} {J : It} {i : Nat} {σ : L2.St} {H1 : Hp} {te : TE} {D : Addr} {Q : VK} {it : Nat → V} {ys : List Int} {n : Nat} (hD : H1 D = none) (src : Src J H1 n it) (hy : ys.length = n) (hn : n ≤ 100000)
    (hw : ∀ x, wipe ((wipe σ [i]).set i (some x)) [i] = wipe σ [i]) (he : ∀ j y H, ys[j]? = some y → Same H1 H → ∀ R : VK, (∀ H', Same H H' → R (.int y) H') → te ((wipe σ [i]).set i (some (it j))) H R)
    (hd : ∀ v H, Same H1 H → IT H v ys → Q v H) : LcG J (gName i) tYes te [i] σ H1 D fun H => kTup K (.ref D) H Q := by
  refine lc_map hD src hy (fun _ v y => v = V.int y) (fun _ _ _ _ _ h => h) hn hw (fun j y H e s R h => he j y H e s R fun H' s' => h _ H' s' rfl) fun acc H s h2 p => .inl ⟨D, acc, rfl, .inl (.inl h2), fun q hq => ?_⟩
  have e := p_ints p
  subst e
  have s2 := same_new (o := .tup (ys.map V.int)) hq
  exact hd _ _ (same_trans s s2) ⟨q, rfl, upd_same⟩
/-! ### slices and sums of tuples of ints -/
theorem cut_ints (ts : List Int) (lo hi : Option Int) {a b : Nat} (ha : HT.sIx ts.length 0 lo = a) (hb : HT.sIx ts.length ts.length hi = b) : cutV (ts.map V.int) lo hi = ((ts.drop a).take (b - a)).map V.int := by
  unfold cutV
  rw [List.length_map, ha, hb, List.map_take, List.map_drop]
/-- a way to know a tuple of ints -/
structure TPred (F : Hp → V → List Int → Prop) : Prop where
  of : ∀ {H v ts}, IT H v ts → F H v ts
  rd : ∀ {H v ts}, F H v ts → IR H v ts
theorem tpIT : TPred IT := ⟨fun h => h, fun h => h.r⟩
theorem tpIR : TPred IR := ⟨fun h => h.r, fun h => h⟩
theorem sl_it {F : Hp → V → List Int → Prop} (f : TPred F) {K : PySem.W.Frag} {H : Hp} {x : V} {ts : List Int} {lo hi : Option Int} {a b : Nat} {Q : VK} (h : F H x ts) (ha : HT.sIx ts.length 0 lo = a) (hb : HT.sIx ts.length ts.length hi = b)
    (q : ∀ v H', Same H H' → F H' v ((ts.drop a).take (b - a)) → Q v H') : rSlA K x lo hi H Q := by
  obtain ⟨p, e, hp⟩ := f.rd h
  subst e
  refine ⟨p, _, rfl, .inl hp, fun z => ?_, fun z r hr => ?_⟩
  · rw [List.length_map, ha, hb] at z
    refine q _ _ (same_refl _) ?_
    rw [z.1, z.2, List.drop_zero, Nat.sub_zero, List.take_length]
    exact h
  · rw [cut_ints ts lo hi ha hb]
    exact q _ _ (same_new hr) (f.of ⟨r, rfl, upd_same⟩)
theorem cat_it {F : Hp → V → List Int → Prop} (f : TPred F) {K : PySem.W.Frag} {H : Hp} {x y : V} {ts us : List Int} {Q : VK} (h : F H x ts) (h2 : F H y us) (len : ts.length + us.length ≤ 100000) (q : ∀ v H', Same H H' → F H' v (ts ++ us) → Q v H') : rCatA K x y H Q := by
  obtain ⟨a, e1, ha⟩ := f.rd h
  obtain ⟨b, e2, hb⟩ := f.rd h2
  subst e1 e2
  refine ⟨a, b, _, _, rfl, rfl, .inl ha, .inl hb, by rw [List.length_map, List.length_map]; exact szl len, fun z => ?_, fun _ z => ?_, fun _ _ p hp => ?_⟩
  · refine q _ _ (same_refl _) ?_
    rw [List.map_eq_nil_iff.mp z]
    exact h2
  · refine q _ _ (same_refl _) ?_
    rw [List.map_eq_nil_iff.mp z, List.append_nil]
    exact h
  · refine q _ _ (same_new hp) (f.of ⟨p, rfl, ?_⟩)
    rw [List.map_append]
    exact upd_same
theorem inV_ints (x : Int) (ts : List Int) : inV (.int x) (ts.map V.int) = decide (x ∈ ts) := by
  rw [Bool.eq_iff_iff, decide_eq_true_eq]
  unfold inV
  rw [List.any_eq_true]
  constructor
  · rintro ⟨y, hy, e⟩
    obtain ⟨z, hz, rfl⟩ := List.mem_map.mp hy
    have e2 : z = x := by simpa [eqV] using e
    exact e2 ▸ hz
  · intro h
    exact ⟨.int x, List.mem_map_of_mem h, by simp [eqV]⟩
theorem flat_ints (ts : List Int) : (ts.map V.int).all flatV = true := by
  rw [List.all_map, List.all_eq_true]
  exact fun _ _ => rfl
section
variable {X : Cx}
/-- t[lo:hi], t + u of tuples of ints -/
def rSlP (F : Hp → V → List Int → Prop) : V → Option Int → Option Int → Hp → VK → Prop := fun x lo hi H Q => ∃ ts a b, F H x ts ∧ HT.sIx ts.length 0 lo = a ∧ HT.sIx ts.length ts.length hi = b ∧ ∀ v H', Same H H' → F H' v ((ts.drop a).take (b - a)) → Q v H'
theorem sl_IT : SlR X (rSlP IT) := fun pins s σ H x v vl vu lo hi sl Q I rx hs pl pu ⟨ts, a, b, h, ha, hb, q⟩ => sl_tupA pins s σ H x v vl vu lo hi sl Q I rx hs pl pu (sl_it tpIT h ha hb q)
theorem sl_IR : SlR X (rSlP IR) := fun pins s σ H x v vl vu lo hi sl Q I rx hs pl pu ⟨ts, a, b, h, ha, hb, q⟩ => sl_tupA pins s σ H x v vl vu lo hi sl Q I rx hs pl pu (sl_it tpIR h ha hb q)
def rCatP (F : Hp → V → List Int → Prop) : R2 := fun x y H Q => ∃ ts us, F H x ts ∧ F H y us ∧ ts.length + us.length ≤ 100000 ∧ ∀ v H', Same H H' → F H' v (ts ++ us) → Q v H'
theorem op_catIT : OpR X (binaryOp .Add) (rCatP IT) := fun pins s σ H x y v u Q I rx ry ⟨ts, us, h1, h2, l, q⟩ => op_catA pins s σ H x y v u Q I rx ry (cat_it tpIT h1 h2 l q)
theorem op_catIR : OpR X (binaryOp .Add) (rCatP IR) := fun pins s σ H x y v u Q I rx ry ⟨ts, us, h1, h2, l, q⟩ => op_catA pins s σ H x y v u Q I rx ry (cat_it tpIR h1 h2 l q)
/-- rules whose question does not speak of the frame they stand in -/
theorem pe_tupK {K : PySem.W.Frag} (hK : X.K = K) {a : Expr} {ta : TE} {p pos : Pos} (hg : Gl X "tuple") (hm : X.mg "tuple" = none) (ha : PE X a ta) (na : starEach [a] X.env = (false, eval a X.env) :: starEach [] X.env := by rfl) : PE X (.Call (.Name "tuple" p) [a] [] pos) (tThen ta (kTup K)) := by
  subst hK
  exact pe_tupleOf hg hm ha na
theorem ix_IT : IxR X (fun x y H Q => ∃ (ts : List Int) (i : Nat), IR H x ts ∧ y = .int i ∧ ∃ h : i < ts.length, Q (.int ts[i]) H) := fun value slice pins s σ H x y v u Q I rx ry ⟨ts, i, ⟨p, ex, hp⟩, ey, h, q⟩ hs =>
  ix_tup value slice pins s σ H x y v u Q I rx ry ⟨p, _, i, .int ts[i], ex, ey, .inl hp, atI_nat (by rw [List.getElem?_map, List.getElem?_eq_getElem h]; rfl), q⟩ hs
/-- xs[i], xs a tuple of tuples of ints -/
theorem ix_WT : IxR X (fun x y H Q => ∃ (ws : List (List Int)) (i : Nat) (w : List Int), WT H x ws ∧ y = .int i ∧ ws[i]? = some w ∧ ∀ v, IT H v w → Q v H) := fun value slice pins s σ H x y v u Q I rx ry ⟨ws, i, w, ⟨p, vs, ex, hp, its⟩, ey, h, q⟩ hs => by
  obtain ⟨z, hz, iz⟩ := p_at2 its h
  exact ix_tup value slice pins s σ H x y v u Q I rx ry ⟨p, _, i, z, ex, ey, .inl hp.rd, atI_nat hz, q z iz⟩ hs
theorem ix_WL : IxR X (fun x y H Q => ∃ (ws : List (List Int)) (i : Nat) (w : List Int), WL H x ws ∧ y = .int i ∧ ws[i]? = some w ∧ ∀ v, IT H v w → Q v H) := fun value slice pins s σ H x y v u Q I rx ry ⟨ws, i, w, ⟨p, vs, ex, hp, its⟩, ey, h, q⟩ hs => by
  obtain ⟨z, hz, iz⟩ := p_at2 its h
  exact ix_list value slice pins s σ H x y v u Q I rx ry ⟨p, _, i, z, ex, ey, .inl (.inl hp), atI_nat hz, q z iz⟩ hs
/-- len of a tuple of ints, of a tuple or list of such -/
theorem call_lenIT : CallR X (.builtin "len") (fun xs H Q => ∃ x ts, xs = [x] ∧ IR H x ts ∧ Q (.int (ts.length : Nat)) H) := fun pins s σ H xs us Q I r ⟨x, ts, e, ⟨a, ea, h⟩, q⟩ =>
  call_len pins s σ H xs us Q I r ⟨x, ts.length, e, by subst ea; exact .inr ⟨_, .inl h, (List.length_map _).symm⟩, q⟩
theorem call_lenWT : CallR X (.builtin "len") (fun xs H Q => ∃ x ws, xs = [x] ∧ (WT H x ws ∨ WL H x ws) ∧ Q (.int (ws.length : Nat)) H) := fun pins s σ H xs us Q I r ⟨x, ws, e, h, q⟩ =>
  call_len pins s σ H xs us Q I r ⟨x, ws.length, e, by
    rcases h with ⟨a, vs, ea, h, i⟩ | ⟨a, vs, ea, h, i⟩
    · subst ea
      exact .inr ⟨_, .inl h.rd, i.length.symm⟩
    · subst ea
      exact .inl ⟨_, .inl (.inl h), i.length.symm⟩, q⟩
/-- len of any list or tuple -/
theorem call_lenV : CallR X (.builtin "len") (fun xs H Q => ∃ a vs, xs = [.ref a] ∧ (H a = some (.tup vs) ∨ H a = some (.lst vs)) ∧ Q (.int (vs.length : Nat)) H) := fun pins s σ H xs us Q I r ⟨a, vs, e, h, q⟩ =>
  call_len pins s σ H xs us Q I r ⟨.ref a, vs.length, e, by
    rcases h with h | h
    · exact .inr ⟨_, .inl (.inl h), rfl⟩
    · exact .inl ⟨_, .inl (.inl h), rfl⟩, q⟩
/-- x not in t -/
theorem op_notInIT : OpR X (compareOp .NotIn) (fun x y H Q => ∃ (i : Int) (ts : List Int), x = .int i ∧ IR H y ts ∧ Q (.bl (!decide (i ∈ ts))) H) := fun pins s σ H x y v u Q I rx ry ⟨i, ts, ex, ⟨a, ea, h⟩, q⟩ =>
  op_notIn_seq pins s σ H x y v u Q I rx ry ⟨a, _, ea, .inr (.inl h), by rw [ex]; rfl, flat_ints ts, by rw [ex]; show Q (.bl (!inV (.int i) (ts.map V.int))) H; rw [inV_ints]; exact q⟩
/-- isinstance(x, tuple), x a tuple -/
theorem call_isTup : CallR X (.builtin "isinstance") (fun xs H Q => ∃ a vs, xs = [.ref a, .ty "tuple"] ∧ Rd H a (.tup vs) ∧ Q (.bl true) H) := fun pins s σ H xs us Q I r ⟨a, vs, e, h, q⟩ => by
  have ty : TyX X.K H (.ref a) (.type "tuple") := by
    rcases h with h | ⟨o, h⟩
    · exact .base (.tup h)
    · exact .fTuple h
  exact call_isi pins s σ H xs us Q I r ⟨.ref a, .ty "tuple", _, _, true, e, .ty _, ty, kit_ty (by decide +kernel), q⟩
theorem sIx_some (n d i : Nat) (h : i ≤ n) : HT.sIx n d (some (i : Int)) = i := by rw [HT.sIx_nat]; omega
end
end WR

-- part: WRW2
set_option Elab.async false
set_option linter.all false
set_option maxRecDepth 100000
set_option maxHeartbeats 4000000
/-! choices.py, the rest -/
namespace WR
open PySem PySem.Spec PyProof.Rows L2
section
variable {P : Program} {w : World} {K : PySem.W.Frag} {mg : Str → Option Value} {base : Heap}

/-! is_choice: of a choice -/
abbrev s_is_choice : Stmt := topS 13
theorem sc_is_choice : FnScope ["n", "k", "thing", "one"] ["n", "k", "thing"] (defScope s_is_choice) := ⟨rfl, rfl, rfl, by decide +kernel, rfl, by decide +kernel, by decide +kernel⟩
def spIsChoice : Sp := fun vs H Q _ => ∃ (n k : Nat) (v : V) (c : List Int), vs = [.int n, .int k, v] ∧ IR H v c ∧ IsCh n k c ∧ k ≤ 26 ∧ ∀ H', Same H H' → Q (.bl true) H'
theorem ok_is_choice {f : Addr} {fd : FuncData} (G : Glb mg) (F : FunS K "is_choice" "is_choice" s_is_choice [] f fd) (c_is_thing : CalF P w K mg base 2 "is_thing" spThing) : FnOk P w K mg base CX0 3 f fd ["n", "k", "thing"] spIsChoice := by
  refine body0 F sc_is_choice (fun vs H Q E h => ?_) (fun cdv A outer s H vs Q E hr h => ?_)
  · obtain ⟨n, k, v, c, rfl, _⟩ := h
    rfl
  · obtain ⟨n, k, v, c, rfl, hv, hc, hk, q⟩ := h
    refine ⟨_, (pss_cons (ps_if (PW.pt (pw_or (pt_not (pt_val (pe_callB call_isTup (by rfl) G.isinstance boot_isinstance (pa_cons (pv 2) (pa_cons (pe_bltn (v := .ty "tuple") (by rfl) G.tuple PyProof.Rows.boot_tuple rfl) pa_nil))))) (pw_or (pt_cmpR op_ne (pe_callB call_lenIT (by rfl) G.len PySem.boot_len (pa_cons (pv 2) pa_nil)) (pv 1) (nomark _))
        (pw_or1 (pt_not (pt_val (pe_callB (cr_all rfl) (by rfl) G.all boot_all (pa_cons (pe_lc (own := [("one", 3)]) (g := gName 3) (tt := tYes) rfl sc_is_choice.nd (pi_tup (pv 2)) (blkOk_by (by kernel_rfl)) (fun _ _ _ _ _ => pg_name (i := 3) sc_is_choice.nd rfl (Or.inl rfl)) (fun _ _ _ _ _ => pts_nil) (fun _ _ _ _ _ => (pe_cal c_is_thing hr (by decide) (by rfl) (pa_cons (pv 0) (pa_cons (pv 3) pa_nil))))) pa_nil))))))))
        (pss_one (ps_ret pe_bl))
        pss_nil)
      (pss_one (ps_ret (pe_cmpR op_eq (pe_lenSetT (by rfl) G.len (by rfl) G.set (pv 2)) (pv 1) (nomark _))))), ?_⟩
    obtain ⟨a, rfl, ha⟩ := id hv
    refine ⟨_, rfl, a, _, rfl, ha, true, rfl, iteF ⟨_, rfl, _, c, rfl, hv, _, rfl, rfl, _, rfl, ?_⟩⟩
    refine ite2 (fun z => ?_) fun _ => ?_
    · rw [hc.len, decide_eq_true rfl] at z
      exact nomatch z
    refine ⟨_, rfl, a, rfl, ⟨_, .inl ha⟩, fun D hD => lc_map (ys := c) hD (src_tupR (xs := c.map V.int) fun H' s => (hv.same s).rd_at) (by simp) (fun _ v _ => v = .bl true) (fun _ _ _ _ _ h => h) (by simp; rw [hc.len]; omega) (fun _ => rfl) (fun j y H1 hj s R hR => ?_) fun acc H1 s h2 p => ?_⟩
    · have m := hc.bd y (List.mem_of_getElem? hj)
      refine ⟨_, rfl, _, rfl, n, y, ?_, m.1, m.2, hR _ _ (same_refl _) rfl⟩
      have e : (c.map V.int).getD j .non = .int y := by rw [List.getD_eq_getElem?_getD, List.getElem?_map, hj]; rfl
      rw [e]
      rfl
    · subst_eqs
      have e := p_true p
      refine ⟨D, c.map fun _ => true, rfl, .inl (.inl (by rw [h2, e])), _, rfl, ?_⟩
      rw [all_true]
      refine iteF ?_
      refine ⟨_, rfl, c, hv.same s, hc.nd, by rw [hc.len]; omega, _, rfl, rfl, ?_⟩
      rw [hc.len]
      exact qT rfl (q _ s)

/-! count -/
abbrev s_count : Stmt := topS 14
theorem sc_count : FnScope ["n", "k", "many", "less"] ["n", "k"] (defScope s_count) := ⟨rfl, rfl, rfl, by decide +kernel, rfl, by decide +kernel, by decide +kernel⟩
def spCount : Sp := fun vs H Q _ => ∃ (n k : Nat), vs = [.int n, .int k] ∧ k ≤ n ∧ n ≤ 26 ∧ Q (.int (cnt n k : Nat)) H
theorem ok_count {f : Addr} {fd : FuncData} (G : Glb mg) (F : FunS K "count" "count" s_count [] f fd) : FnOk P w K mg base CX0 1 f fd ["n", "k"] spCount := by
  refine body0 F sc_count (fun vs H Q E h => ?_) (fun cdv A outer s H vs Q E hr h => ?_)
  · obtain ⟨n, k, rfl, _⟩ := h
    rfl
  · obtain ⟨n, k, rfl, hk, hn, q⟩ := h
    refine ⟨_, (pss_cons (ps_set (i := 2) sc_count.nd rfl (Or.inl rfl) pe_int)
      (pss_cons (ps_for PassesOwn.never rfl (pi_range1 (by rfl) G.range (pa_cons (pv 1) pa_nil)) (pg_name (i := 3) sc_count.nd rfl (Or.inl rfl))
        (pss_one (ps_aug (i := 2) sc_count.nd rfl (Or.inl rfl) (pe_op op_sub (pv 0) (pv 3)) ip_mul)))
      (pss_one (ps_ret (pv 2))))), ?_⟩
    refine ⟨_, rfl, _, rfl, by omega, by omega, for_range (n := k) (fun i σ H' => H' = H ∧ ∃ x, σ = [some (.int n), some (.int k), some (.int (cnt n i : Nat)), x]) ⟨rfl, _, rfl⟩ (fun i σ H' hi p => ?_) fun σ H' p => ?_⟩
    · obtain ⟨rfl, x, rfl⟩ := p
      refine ⟨_, rfl, _, rfl, _, rfl, _, _, rfl, rfl, _, _, rfl, rfl, .inr ⟨by omega, by omega⟩, rfl, some (.int (0 + (i : Int))), ?_⟩
      have e : ((cnt n i : Nat) : Int) * ((n : Int) - (0 + (i : Int))) = (cnt n (i + 1) : Nat) := by
        rw [cnt, Int.natCast_mul, Int.ofNat_sub (by omega), Int.zero_add]
      show List.set _ 2 (some (V.int (((cnt n i : Nat) : Int) * ((n : Int) - (0 + (i : Int)))))) = _
      rw [e]
      rfl
    · obtain ⟨rfl, x, rfl⟩ := p
      exact ⟨_, rfl, q⟩

/-! choice_at -/
abbrev s_choice_at : Stmt := topS 15
theorem sc_choice_at : FnScope ["n", "k", "number", "left", "found", "place", "at"] ["n", "k", "number"] (defScope s_choice_at) := ⟨rfl, rfl, rfl, by decide +kernel, rfl, by decide +kernel, by decide +kernel⟩
def spChoiceAt : Sp := fun vs H Q _ => ∃ (n k num : Nat), vs = [.int n, .int k, .int num] ∧ k ≤ n ∧ n ≤ 26 ∧ num < cnt n k ∧ num < 900 ∧ ∀ v H', Same H H' → IT H' v (chAt (upto n) k num) → Q v H'
theorem rgV_upto (n : Nat) : rgV 0 (n : Int) = (upto n).map V.int := by
  unfold rgV upto
  rw [List.map_map]
  refine List.map_congr_left fun i _ => ?_
  show V.int (0 + (i : Int)) = V.int (i : Int)
  rw [Int.zero_add]
theorem rgV_uptoN (n : Nat) : rgV 0 (n : Int) = (upto n).map V.int := rgV_upto n
theorem seq_at {i n : Nat} (h : i < n) : seqIndex? (i : Int) n = some i := by
  have h1 : ¬ ((i : Int) < 0) := by omega
  have h2 : (0 ≤ (i : Int) && decide ((i : Int) < (n : Int))) = true := by
    rw [Bool.and_eq_true, decide_eq_true_eq, decide_eq_true_eq]
    omega
  simp only [seqIndex?, if_neg h1, if_pos h2, Int.toNat_natCast]
theorem erase_mapV (l : List Int) (j : Nat) : (l.map V.int).eraseIdx j = (l.eraseIdx j).map V.int := erase_mapI l j
theorem ok_choice_at {f : Addr} {fd : FuncData} (G : Glb mg) (F : FunS K "choice_at" "choice_at" s_choice_at [] f fd) (c_count : CalF P w K mg base 1 "count" spCount) : FnOk P w K mg base CX0 2 f fd ["n", "k", "number"] spChoiceAt := by
  refine body0 F sc_choice_at (fun vs H Q E h => ?_) (fun cdv A outer s H vs Q E hr h => ?_)
  · obtain ⟨n, k, num, rfl, _⟩ := h
    rfl
  · obtain ⟨n, k, num, rfl, hk, hn, hnum, h900, q⟩ := h
    refine ⟨_, (pss_cons (ps_if (pt_not (pt_chain op_le op_lt pe_int (pv 2) (pe_cal c_count hr (by decide) (by rfl) (pa_cons (pv 0) (pa_cons (pv 1) pa_nil)))))
        (pss_one ps_never)
        pss_nil)
      (pss_cons (ps_set (i := 3) sc_choice_at.nd rfl (Or.inl rfl) (pe_listRg rfl (by rfl) G.list (prg_1 (by rfl) G.range (pv 0))))
      (pss_cons (ps_set (i := 4) sc_choice_at.nd rfl (Or.inl rfl) (pe_tup pa_nil))
      (pss_cons (ps_for PassesOwn.never rfl (pi_range1 (by rfl) G.range (pa_cons (pv 1) pa_nil)) (pg_name (i := 5) sc_choice_at.nd rfl (Or.inl rfl))
        (pss_cons (ps_asg (pe_callB call_divmodW (by rfl) G.divmod boot_divmod (pa_cons (pv 2) (pa_cons (pe_cal c_count hr (by decide) (by rfl) (pa_cons (pe_op op_sub (pe_op op_sub (pv 0) (pv 5)) pe_int) (pa_cons (pe_op op_sub (pe_op op_sub (pv 1) (pv 5)) pe_int) pa_nil))) pa_nil))) (pg_tup rfl (pgs_cons (pg_name (i := 6) sc_choice_at.nd rfl (Or.inl rfl)) (pgs_cons (pg_name (i := 2) sc_choice_at.nd rfl (Or.inl rfl)) pgs_nil))))
        (pss_one (ps_aug (i := 4) sc_choice_at.nd rfl (Or.inl rfl) (pe_tup (pa_cons (pe_bm PySem.F.plainAttrs_list PySem.F.slot_list_pop PySem.F.type_list_pop mt_popAt (pv 3) (pa_cons (pv 6) pa_nil)) pa_nil)) ip_catA))))
      (pss_one (ps_ret (pv 4))))))), ?_⟩
    refine ⟨_, rfl, _, _, rfl, rfl, _, rfl, ?_⟩
    rw [decide_eq_true (by omega : (0 : Int) ≤ (num : Int))]
    refine iteT ⟨_, rfl, _, rfl, n, k, rfl, hk, hn, _, _, rfl, rfl, _, rfl, ?_⟩
    rw [decide_eq_true (by omega : (num : Int) < ((cnt n k : Nat) : Int))]
    refine iteF ⟨_, rfl, _, rfl, RgOk.of_le (by omega) (by omega) (by omega) (by omega), fun l hl => ⟨by decide, fun t ht => ?_⟩⟩
    have ntl : t ≠ l := fun e => by rw [e, upd_same] at ht; exact nomatch ht
    refine ⟨_, rfl, _, rfl, by omega, by omega, for_range (n := k) (fun i σ H' => ∃ (nu : Nat) (left fd : List Int) (v : V) (x5 x6 : Option V), σ = [some (.int n), some (.int k), some (.int nu), some (.ref l), some v, x5, x6] ∧ Same H H' ∧ H' l = some (.lst (left.map V.int)) ∧ IT H' v fd ∧
      left.length = n - i ∧ nu < cnt (n - i) (k - i) ∧ nu < 900 ∧ fd.length = i ∧ fd ++ chAt left (k - i) nu = chAt (upto n) k num) ?_ (fun i σ H' hi p => ?_) fun σ H' p => ?_⟩
    · refine ⟨num, upto n, [], .ref t, none, none, rfl, ?_, ?_, ⟨t, rfl, upd_same⟩, upto_length n, hnum, h900, rfl, rfl⟩
      · exact same_trans (same_new hl) (same_new ht)
      · rw [upd_ne (Ne.symm ntl), upd_same]
        show some (HO.lst (rgV 0 (n : Int))) = _
        rw [rgV_upto]
    · obtain ⟨nu, left, fdl, v, x5, x6, rfl, sm, hL, hv, e1, e2, e3, e4, e5⟩ := p
      obtain ⟨m, em⟩ : ∃ m, k - i = m + 1 := ⟨k - i - 1, by omega⟩
      rw [em] at e2 e5
      have e1' : left.length - 1 = n - i - 1 := by omega
      have at_lt : nu / cnt (n - i - 1) m < left.length := by
        have z := div_lt_of (l := left.length) (k := m) (num := nu) (by omega) (by omega) (by rw [e1]; exact e2)
        rw [e1'] at z
        exact z
      have cp : 0 < cnt (n - i - 1) m := cnt_pos (by omega)
      refine ⟨_, rfl, _, rfl, _, rfl, _, _, rfl, rfl, _, _, rfl, rfl, _, rfl, _, rfl, _, _, rfl, rfl, _, _, rfl, rfl, n - i - 1, m, ?_, by omega, by omega, ?_⟩
      · show [V.int ((n : Int) - (0 + (i : Int)) - 1), V.int ((k : Int) - (0 + (i : Int)) - 1)] = _
        rw [show (n : Int) - (0 + (i : Int)) - 1 = ((n - i - 1 : Nat) : Int) by omega, show (k : Int) - (0 + (i : Int)) - 1 = (m : Int) by omega]
      have bits : Builtin.Int.intBits (nu : Int) ≤ 64 := intBits_le_64 (by omega) (by omega)
      refine ⟨_, _, rfl, divp_ok (by omega) (by omega), fun p hp => ⟨_, _, rfl, .inl (.inl upd_same), rfl, _, _, rfl, _, _, rfl, rfl, ?_⟩⟩
      have nlp : l ≠ p := ne_of_none hL hp
      rw [← Int.natCast_ediv, ← Int.natCast_emod]
      have le1 : nu / cnt (n - i - 1) m ≤ nu := Nat.div_le_self _ _
      have le2 : nu % cnt (n - i - 1) m ≤ nu := Nat.mod_le _ _
      generalize ea : nu / cnt (n - i - 1) m = at_ at *
      generalize en : nu % cnt (n - i - 1) m = nu2 at *
      have hL1 : upd H' p (.tup [.int (at_ : Int), .int (nu2 : Int)]) l = some (.lst (left.map V.int)) := by
        rw [upd_ne nlp]
        exact hL
      have hv1 : IT (upd H' p (.tup [.int (at_ : Int), .int (nu2 : Int)])) v fdl := hv.same (same_new hp)
      have sm1 : Same H (upd H' p (.tup [.int (at_ : Int), .int (nu2 : Int)])) := same_trans sm (same_new hp)
      generalize upd H' p (.tup [.int (at_ : Int), .int (nu2 : Int)]) = H2 at hL1 hv1 sm1 ⊢
      have one : ∀ z : V, [z].length ≤ sizeLine := fun _ => by show 1 ≤ sizeLine; decide
      refine ⟨_, rfl, _, rfl, .inl ⟨rfl, _, .inl (.inl hL1)⟩, _, rfl, l, _, _, at_, .int (left.getD at_ 0), rfl, rfl, hL1, by omega, by omega, ?_, ?_, one _, fun b hb => ?_⟩
      · rw [List.length_map]
        exact seq_at at_lt
      · rw [List.getElem?_map, List.getElem?_eq_getElem at_lt, List.getD_eq_getElem?_getD, List.getElem?_eq_getElem at_lt]
        rfl
      · rw [erase_mapV] at hb ⊢
        have hv2 : IT (upd H2 l (.lst ((left.eraseIdx at_).map V.int))) v fdl := hv1.n (SameN.mut hL1)
        have sm2 : Same H (upd H2 l (.lst ((left.eraseIdx at_).map V.int))) := same_mut sm1 hl
        have hL2 : upd H2 l (.lst ((left.eraseIdx at_).map V.int)) l = some (.lst ((left.eraseIdx at_).map V.int)) := upd_same
        generalize upd H2 l (.lst ((left.eraseIdx at_).map V.int)) = H3 at hb hv2 sm2 hL2 ⊢
        have nlb : l ≠ b := ne_of_none hL2 hb
        have hv3 := hv2.same (same_new (o := .tup [.int (left.getD at_ 0)]) hb)
        have sm3 := same_trans sm2 (same_new (o := .tup [.int (left.getD at_ 0)]) hb)
        have hL3 : upd H3 b (.tup [.int (left.getD at_ 0)]) l = some (.lst ((left.eraseIdx at_).map V.int)) := by rw [upd_ne nlb]; exact hL2
        have hb3 : IT (upd H3 b (.tup [.int (left.getD at_ 0)])) (.ref b) [left.getD at_ 0] := ⟨b, rfl, upd_same⟩
        generalize upd H3 b (.tup [.int (left.getD at_ 0)]) = H4 at hv3 sm3 hL3 hb3 ⊢
        have fin : ∀ v' H5, Same H4 H5 → IT H5 v' (fdl ++ [left.getD at_ 0]) → ∃ (nu : Nat) (left fd : List Int) (v : V) (x5 x6 : Option V), [some (.int n), some (.int k), some (.int (nu2 : Int)), some (.ref l), some v', some (.int (0 + (i : Int))), some (.int (at_ : Int))] = [some (.int n), some (.int k), some (.int nu), some (.ref l), some v, x5, x6] ∧ Same H H5 ∧ H5 l = some (.lst (left.map V.int)) ∧ IT H5 v fd ∧
            left.length = n - (i + 1) ∧ nu < cnt (n - (i + 1)) (k - (i + 1)) ∧ nu < 900 ∧ fd.length = i + 1 ∧ fd ++ chAt left (k - (i + 1)) nu = chAt (upto n) k num := fun v' H5 s5 h5 => by
          refine ⟨nu2, left.eraseIdx at_, _, v', _, _, rfl, same_trans sm3 s5, s5 _ _ hL3, h5, ?_, ?_, by omega, by rw [List.length_append, e4]; rfl, ?_⟩
          · rw [erase_len at_lt]
            omega
          · rw [show n - (i + 1) = n - i - 1 by omega, show k - (i + 1) = m by omega, ← en]
            exact Nat.mod_lt _ cp
          · rw [← e5, show k - (i + 1) = m by omega, chAt, e1', ea, en, List.append_assoc]
            rfl
        obtain ⟨a, ev, ha⟩ := hv3
        obtain ⟨b', eb, hb4⟩ := hb3
        cases eb
        refine ⟨a, b, _, _, ev, rfl, .inl (.inl ha), .inl (.inl hb4), ?_, fun z => ?_, fun _ z => absurd z (by simp), fun _ _ p hp => ?_⟩
        · rw [List.length_map, List.length_map, e4]
          exact szl (by show i + 1 ≤ _; omega)
        · have z' : fdl = [] := List.map_eq_nil_iff.mp z
          exact fin _ _ (same_refl _) (by rw [z']; exact ⟨b, rfl, hb4⟩)
        · refine fin _ _ (same_new hp) ⟨p, rfl, ?_⟩
          rw [List.map_append]
          exact upd_same
    · obtain ⟨nu, left, fdl, v, x5, x6, rfl, sm, hL, hv, e1, e2, e3, e4, e5⟩ := p
      rw [Nat.sub_self] at e5
      refine ⟨_, rfl, q _ _ sm ?_⟩
      rw [← e5]
      show IT H' v (fdl ++ [])
      rw [List.append_nil]
      exact hv
end
end WR

-- part: WRW3
set_option Elab.async false
set_option linter.all false
set_option maxRecDepth 100000
set_option maxHeartbeats 4000000
/-! choices.py: lacking, turned -/
namespace WR
open PySem PySem.Spec PyProof.Rows L2
section
variable {P : Program} {w : World} {K : PySem.W.Frag} {mg : Str → Option Value} {base : Heap}

abbrev s_lacking : Stmt := topS 16
theorem sc_lacking : FnScope ["n", "choice", "thing"] ["n", "choice"] (defScope s_lacking) := ⟨rfl, rfl, rfl, by decide +kernel, rfl, by decide +kernel, by decide +kernel⟩
def spLacking : Sp := fun vs H Q _ => ∃ (n : Nat) (x : V) (c : List Int), vs = [.int n, x] ∧ IR H x c ∧ n ≤ 26 ∧ ∀ v H', Same H H' → IT H' v (lack n c) → Q v H'
theorem lack_fm (n : Nat) (c : List Int) : (List.range n).filterMap (fun (j : Nat) => if decide ((j : Int) ∉ c) = true then some (j : Int) else none) = lack n c := by
  unfold lack upto
  induction n with
  | zero => rfl
  | succ n ih =>
    rw [List.range_succ, List.filterMap_append, List.map_append, List.filter_append, ih]
    congr 1
    by_cases h : (n : Int) ∈ c
    · simp [h]
    · simp [h]
theorem ok_lacking {f : Addr} {fd : FuncData} (G : Glb mg) (F : FunS K "lacking" "lacking" s_lacking [] f fd) : FnOk P w K mg base CX0 1 f fd ["n", "choice"] spLacking := by
  refine body0 F sc_lacking (fun vs H Q E h => ?_) (fun cdv A outer s H vs Q E hr h => ?_)
  · obtain ⟨n, x, c, rfl, _⟩ := h
    rfl
  · obtain ⟨n, x, c, rfl, hx, hn, q⟩ := h
    refine ⟨_, (pss_one (ps_ret (pe_tupleOf (by rfl) G.tuple (pe_lc (own := [("thing", 2)]) (g := gName 2) rfl sc_lacking.nd (pi_range1 (by rfl) G.range (pa_cons (pv 0) pa_nil)) (blkOk_by (by kernel_rfl)) (fun _ _ _ _ _ => pg_name (i := 2) sc_lacking.nd rfl (Or.inl rfl))
      (fun _ _ _ _ _ => pts_one (pt_cmpR op_notInIT (pv 2) (pv 1) (by with_unfolding_all rfl))) (fun _ _ _ _ _ => (pv 2)))))), ?_⟩
    refine ⟨_, rfl, _, rfl, by omega, by omega, fun D hD => lc_same hD (src_rng 0 n H) (fun (j : Nat) => if decide ((j : Int) ∉ c) = true then some (j : Int) else none) (fun _ v y => v = V.int y) (fun _ _ _ _ _ h => h) (by omega) (fun _ => rfl) (fun j H1 hj s R hR => ?_) (fun j y H1 hj e s R hR => ?_) fun acc H1 s h2 p => ?_⟩
    · refine ⟨_, rfl, _, rfl, _, c, rfl, hx.same s, _, rfl, ?_⟩
      have z := hR H1 (same_refl _)
      rw [Int.zero_add]
      by_cases h : (j : Int) ∈ c
      · simpa [h] using z
      · simpa [h] using z
    · refine ⟨_, rfl, hR _ H1 (same_refl _) ?_⟩
      by_cases h : (j : Int) ∈ c
      · simp [h] at e
      · simp [h] at e
        rw [← e, Int.zero_add]
    · rw [lack_fm] at p
      have e := p_ints p
      subst e
      exact .inl ⟨D, _, rfl, .inl (.inl h2), fun r hr => q _ _ (same_trans s (same_new hr)) ⟨r, rfl, upd_same⟩⟩

abbrev s_turned : Stmt := topS 17
theorem sc_turned : FnScope ["things", "by", "at"] ["things", "by"] (defScope s_turned) := ⟨rfl, rfl, rfl, by decide +kernel, rfl, by decide +kernel, by decide +kernel⟩
def spTurned : Sp := fun vs H Q _ => ∃ (x : V) (ts : List Int) (i : Nat), vs = [x, .int i] ∧ IR H x ts ∧ i < ts.length ∧ ts.length ≤ 1000 ∧ ∀ v H', Same H H' → IR H' v (rot ts i) → Q v H'
theorem ok_turned {f : Addr} {fd : FuncData} (G : Glb mg) (F : FunS K "turned" "turned" s_turned [] f fd) : FnOk P w K mg base CX0 1 f fd ["things", "by"] spTurned := by
  refine body0 F sc_turned (fun vs H Q E h => ?_) (fun cdv A outer s H vs Q E hr h => ?_)
  · obtain ⟨x, ts, i, rfl, _⟩ := h
    rfl
  · obtain ⟨x, ts, i, rfl, hx, hi, hn, q⟩ := h
    refine ⟨_, (pss_cons (ps_if (pt_cmpR op_eq (pe_callB call_lenIT (by rfl) G.len PySem.boot_len (pa_cons (pv 0) pa_nil)) pe_int (nomark _))
        (pss_one (ps_ret (pe_tup pa_nil)))
        pss_nil)
      (pss_cons (ps_set (i := 2) sc_turned.nd rfl (Or.inl rfl) (pe_op op_mod (pv 1) (pe_callB call_lenIT (by rfl) G.len PySem.boot_len (pa_cons (pv 0) pa_nil))))
      (pss_one (ps_ret (pe_op op_catIR (pe_slice sl_IR (pv 0) (po_some (pv 2)) po_none) (pe_slice sl_IR (pv 0) po_none (po_some (pv 2)))))))), ?_⟩
    refine ⟨_, rfl, _, ts, rfl, hx, rfl, _, rfl, ?_⟩
    refine ite2 (fun z => ?_) fun _ => ?_
    · exfalso
      have z2 := of_decide_eq_true z
      injection z2 with z2
      omega
    refine ⟨_, rfl, _, rfl, _, ts, rfl, hx, _, _, rfl, rfl, by show (0 : Int) < _; omega, ?_⟩
    have e : (i : Int) % (ts.length : Int) = (i : Int) := Int.emod_eq_of_lt (by omega) (by omega)
    dsimp only
    rw [e]
    have e1 : (ts.drop i).take (ts.length - i) = ts.drop i := List.take_of_length_le (by rw [List.length_drop]; omega)
    have e2 : (ts.drop 0).take (i - 0) = ts.take i := by rw [List.drop_zero, Nat.sub_zero]
    refine ⟨_, rfl, _, rfl, _, rfl, ts, i, ts.length, hx, sIx_some _ _ _ (by omega), rfl, fun v H1 s1 h1 => ⟨_, rfl, _, rfl, _, rfl, ts, 0, i, hx.same s1, rfl, sIx_some _ _ _ (by omega), fun v2 H2 s2 h2 => ?_⟩⟩
    rw [e1] at h1
    rw [e2] at h2
    exact ⟨_, _, h1.same s2, h2, by rw [List.length_drop, List.length_take]; omega, fun v3 H3 s3 h3 => q _ _ (same_trans s1 (same_trans s2 s3)) h3⟩
end
end WR

-- part: WRRow
set_option Elab.async false
set_option linter.all false
set_option maxRecDepth 100000
set_option maxHeartbeats 4000000
/-! Rows in the heap, and the rules for them. -/
namespace WR
open PySem PySem.Spec PyProof.Rows L2
/-- a class of rows -/
structure ClsOk (K : PySem.W.Frag) (C : Addr) : Prop where
  cl : Cls K C
  nN : NoAttr K C "n"
  nT : NoAttr K C "things"
/-- a row of things below n -/
structure RowOk (n : Nat) (ts : List Int) : Prop where
  lo : 1 ≤ n
  hi : n ≤ 26
  ne : ts ≠ []
  len : ts.length ≤ 1000
  bd : ∀ x ∈ ts, 0 ≤ x ∧ x < (n : Int)
theorem RowOk.pos {n : Nat} {ts : List Int} (h : RowOk n ts) : 0 < ts.length := List.length_pos_iff.mpr h.ne
def RowAt (C : Addr) (H : Hp) (x : V) (n : Nat) (ts : List Int) : Prop := ∃ a dx t, x = .ref a ∧ H a = some (.ins C dx [("n", .int n), ("things", t)]) ∧ IT H t ts
theorem RowAt.n {C : Addr} {H H' : Hp} {x : V} {n : Nat} {ts : List Int} (s : SameN H H') (h : RowAt C H x n ts) : RowAt C H' x n ts := by
  obtain ⟨a, dx, t, e, h, i⟩ := h
  exact ⟨a, dx, t, e, s _ _ nofun h, i.n s⟩
theorem RowAt.same {C : Addr} {H H' : Hp} {x : V} {n : Nat} {ts : List Int} (s : Same H H') (h : RowAt C H x n ts) : RowAt C H' x n ts := h.n (same_n s)
section
variable {X : Cx} {K : PySem.W.Frag} {C : Addr}
def tRowN (C : Addr) (ta : TE) : TE := fun σ H Q => ta σ H fun x H1 => ∃ n ts, RowAt C H1 x n ts ∧ Q (.int (n : Nat)) H1
def tRowT (C : Addr) (ta : TE) : TE := fun σ H Q => ta σ H fun x H1 => ∃ n ts, RowAt C H1 x n ts ∧ ∀ t, IT H1 t ts → Q t H1
theorem pe_rowN {e : Expr} {ta : TE} {pos : Pos} (c : ClsOk X.K C) (he : PE X e ta) (hb : attributeBase e "n" X.env (eval e X.env) = eval e X.env := by rfl) : PE X (.Attribute e "n" pos) (tRowN C ta) :=
  ⟨fun pins s σ H Q I h => attr_of hb (thn (he.run pins s σ H _ I h) fun u s1 ⟨x, H1, I1, rx, n, ts, ⟨a, dx, t, ex, ha, _⟩, q⟩ => by
    subst ex
    cases rx
    exact getattr_ok I1 ha c.cl c.nN rfl fun u' s2 I2 ru => ⟨_, H1, I2, ru, q⟩)⟩
theorem pe_rowT {e : Expr} {ta : TE} {pos : Pos} (c : ClsOk X.K C) (he : PE X e ta) (hb : attributeBase e "things" X.env (eval e X.env) = eval e X.env := by rfl) : PE X (.Attribute e "things" pos) (tRowT C ta) :=
  ⟨fun pins s σ H Q I h => attr_of hb (thn (he.run pins s σ H _ I h) fun u s1 ⟨x, H1, I1, rx, n, ts, ⟨a, dx, t, ex, ha, it⟩, q⟩ => by
    subst ex
    cases rx
    exact getattr_ok I1 ha c.cl c.nT rfl fun u' s2 I2 ru => ⟨_, H1, I2, ru, q t it⟩)⟩

/-! ### __init__'s promise, a new row -/
def spInit (K : PySem.W.Frag) : Sp := fun vs H Q _ => ∃ (a C dx : Addr) (n : Nat) (t : V) (ts : List Int), vs = [.ref a, .int n, t] ∧ H a = some (.ins C dx []) ∧ ClsOk K C ∧ IT H t ts ∧ RowOk n ts ∧
  ∀ H1, Same H H1 → Q .non (upd H1 a (.ins C dx [("n", .int n), ("things", t)]))
/-- C(n, things) -/
def tRow (C : Addr) (t : TA) : TE := fun σ H Q => t σ H fun vs H1 => ∃ (n : Nat) (x : V) (ts : List Int), vs = [.int n, x] ∧ IT H1 x ts ∧ RowOk n ts ∧ ∀ v H', Same H1 H' → RowAt C H' v n ts → Q v H'
theorem ne_ins {H : Hp} {a x : Addr} (hx : H x = none) {o : HO} (h : H a = some o) : a ≠ x := ne_of_none h hx
theorem pe_row {k j : Nat} {x : Str} {p pos : Pos} {e : Expr} {es : List Expr} {t : TA} (c : MakF X.prog X.w X.K X.mg X.base k x C (spInit X.K)) (cc : ClsOk X.K C) (hr : Room j X.A) (hk : k + 1 ≤ j) (hg : Gl X x) (ha : PA X (e :: es) t)
    (hdb : (x == ("__debug__" : Str)) = false := by decide) (he : starEach (e :: es) X.env = (false, eval e X.env) :: starEach es X.env := by rfl) (hpl : (backTo pos (starEach es X.env)).any (·.1) = false := by rfl) :
    PE X (.Call (.Name x p) (e :: es) [] pos) (tRow C t) := by
  obtain ⟨f, fd, ps, F, hm, M, b⟩ := c.ex
  refine ⟨fun pins s σ H Q I h => wpAny_Call_Name_kw (ld_glob I hg hm (PySem.W.callWith_K (h₀ := X.base) I.ok.mod.kin M.kp (thn (ha.run pos pins s σ H _ I h) fun us s1 ⟨vs, H1, I1, r, n, y, ts, ev, it, ok, q⟩ => ⟨I1.kIn, run_make M F (hr.mono hk) b .nil pass0 I1 r fun x dx hx hdx ne => ?_⟩) he hpl) hdb)⟩
  subst ev
  have s1' := same_new (o := .own x) hdx
  have hx2 : upd H1 dx (.own x) x = none := by rw [upd_ne (Ne.symm ne)]; exact hx
  have s2' := same_trans s1' (same_new (o := .ins C dx []) hx2)
  refine ⟨x, C, dx, n, y, ts, rfl, upd_same, cc, it.same s2', ok, fun H2 s3 => ⟨rfl, q _ _ ?_ ⟨x, dx, y, rfl, upd_same, ?_⟩⟩⟩
  · intro b o eb
    have nb : b ≠ x := ne_of_none eb hx
    rw [upd_ne nb]
    exact s3 _ _ (s2' _ _ eb)
  · obtain ⟨p, rfl, hp⟩ := it
    refine ⟨p, rfl, ?_⟩
    rw [upd_ne (ne_of_none hp hx)]
    exact s3 _ _ (s2' _ _ hp)
/-- a method that is called on a row -/
theorem row_met {C : Addr} {H : Hp} {x : V} {n : Nat} {ts : List Int} {m : Str} {F : Prop} (h : RowAt C H x n ts) (nn : m ≠ "n") (nt : m ≠ "things") : ∃ a dx fs, x = V.ref a ∧ H a = some (.ins C dx fs) ∧ fs.lookup m = none := by
  obtain ⟨a, dx, t, e, h, _⟩ := h
  refine ⟨a, dx, _, e, h, ?_⟩
  have h1 : (m == ("n" : Str)) = false := beq_eq_false_iff_ne.mpr nn
  have h2 : (m == ("things" : Str)) = false := beq_eq_false_iff_ne.mpr nt
  simp only [List.lookup, h1, h2]
end
end WR

-- part: WRW4
set_option Elab.async false
set_option linter.all false
set_option maxRecDepth 100000
set_option maxHeartbeats 4000000
/-! rows.py: is_below, can_be_row, are_unlike, Row.__init__ -/
namespace WR
open PySem PySem.Spec PyProof.Rows L2
section
variable {P : Program} {w : World} {K : PySem.W.Frag} {mg : Str → Option Value} {base : Heap}

theorem scWholeR : FnScope ["thing"] ["thing"] (defScope sWholeR) := ⟨rfl, rfl, rfl, by decide +kernel, rfl, by decide +kernel, by decide +kernel⟩
theorem ok_wholeR {f : Addr} {fd : FuncData} (G : Glb mg) (F : FunS K "is_whole" "is_whole" sWholeR [] f fd) : FnOk P w K mg base CX0 1 f fd ["thing"] spWhole := by
  refine body0 F scWholeR (fun vs H Q E h => ?_) (fun cdv A outer s H vs Q E hr h => ?_)
  · obtain ⟨i, rfl, _⟩ := h
    rfl
  · obtain ⟨i, rfl, q⟩ := h
    refine ⟨_, pss_one (ps_ret (pe_and (pe_callB call_isi (by rfl) G.isinstance boot_isinstance (pa_cons (pv 0) (pa_cons (pe_bltn (v := .ty "int") (by rfl) G.int PyProof.Rows.boot_int rfl) pa_nil)))
      (pe_one (pe_not (pe_callB call_isi (by rfl) G.isinstance boot_isinstance (pa_cons (pv 0) (pa_cons (pe_bltn (v := .ty "bool") (by rfl) G.bool PyProof.Rows.boot_bool rfl) pa_nil))))))), ?_⟩
    refine ⟨_, rfl, .int i, .ty "int", _, _, true, rfl, .ty _, .base (.int i), kit_ty (by decide +kernel), true, rfl, iteT ?_⟩
    exact ⟨_, rfl, .int i, .ty "bool", _, _, false, rfl, .ty _, .base (.int i), kit_ty (by decide +kernel), false, rfl, q⟩

abbrev s_is_below : Stmt := topS 23
theorem sc_is_below : FnScope ["thing", "many"] ["thing", "many"] (defScope s_is_below) := ⟨rfl, rfl, rfl, by decide +kernel, rfl, by decide +kernel, by decide +kernel⟩
def spBelow : Sp := fun vs H Q _ => ∃ (i n : Int), vs = [.int i, .int n] ∧ 0 ≤ i ∧ i < n ∧ Q (.bl true) H
theorem ok_is_below {f : Addr} {fd : FuncData} (F : FunS K "is_below" "is_below" s_is_below [] f fd) (c : CalF P w K mg base 1 "is_whole_rows" spWhole) : FnOk P w K mg base CX0 2 f fd ["thing", "many"] spBelow := by
  refine body0 F sc_is_below (fun vs H Q E h => ?_) (fun cdv A outer s H vs Q E hr h => ?_)
  · obtain ⟨i, n, rfl, _⟩ := h
    rfl
  · obtain ⟨i, n, rfl, h0, h1, q⟩ := h
    refine ⟨_, pss_one (ps_ret (pe_and (pe_cal c hr (by decide) (by rfl) (pa_cons (pv 0) pa_nil)) (pe_one (pe_chain op_le op_lt pe_int (pv 0) (pv 1))))), ?_⟩
    refine ⟨_, rfl, i, rfl, true, rfl, iteT ?_⟩
    exact ⟨_, rfl, 0, i, rfl, rfl, true, blT h0, iteT ⟨_, rfl, i, n, rfl, rfl, qT h1 q⟩⟩

abbrev s_can_be_row : Stmt := topS 24
theorem sc_can_be_row : FnScope ["n", "things", "thing"] ["n", "things"] (defScope s_can_be_row) := ⟨rfl, rfl, rfl, by decide +kernel, rfl, by decide +kernel, by decide +kernel⟩
def spCanRow : Sp := fun vs H Q _ => ∃ (n : Nat) (x : V) (ts : List Int), vs = [.int n, x] ∧ IT H x ts ∧ RowOk n ts ∧ ∀ H', Same H H' → Q (.bl true) H'
theorem ok_can_be_row {f : Addr} {fd : FuncData} {tM : Tok} (G : Glb mg) (gM : mg "MOST_THINGS" = some (.int 26 tM)) (F : FunS K "can_be_row" "can_be_row" s_can_be_row [] f fd) (c_is_whole_rows : CalF P w K mg base 1 "is_whole_rows" spWhole) (c_is_below : CalF P w K mg base 2 "is_below" spBelow) :
    FnOk P w K mg base CX0 3 f fd ["n", "things"] spCanRow := by
  refine body0 F sc_can_be_row (fun vs H Q E h => ?_) (fun cdv A outer s H vs Q E hr h => ?_)
  · obtain ⟨n, x, ts, rfl, _⟩ := h
    rfl
  · obtain ⟨n, x, ts, rfl, ⟨a, rfl, ha⟩, ok, q⟩ := h
    have hx : IR H (.ref a) ts := ⟨a, rfl, .inl ha⟩
    refine ⟨_, (pss_cons (ps_if (PW.pt (pw_or (pt_not (pt_val (pe_cal c_is_whole_rows hr (by decide) (by rfl) (pa_cons (pv 0) pa_nil)))) (pw_or (pt_not (pt_chain op_le op_le pe_int (pv 0) (pe_glob (v := .int 26) (by rfl) gM ⟨_, rfl⟩))) (pw_or1 (pt_not (pt_val (pe_callB call_isTup (by rfl) G.isinstance boot_isinstance (pa_cons (pv 1) (pa_cons (pe_bltn (v := .ty "tuple") (by rfl) G.tuple PyProof.Rows.boot_tuple rfl) pa_nil)))))))))
        (pss_one (ps_ret pe_bl))
        pss_nil)
      (pss_one (ps_ret (pe_and (pe_cmpR op_gt (pe_callB call_lenIT (by rfl) G.len PySem.boot_len (pa_cons (pv 1) pa_nil)) pe_int (nomark _)) (pe_one (pe_callB (cr_all rfl) (by rfl) G.all boot_all (pa_cons (pe_lc (own := [("thing", 2)]) (g := gName 2) (tt := tYes) rfl sc_can_be_row.nd (pi_tup (pv 1)) (blkOk_by (by kernel_rfl))
        (fun _ _ _ _ _ => pg_name (i := 2) sc_can_be_row.nd rfl (Or.inl rfl)) (fun _ _ _ _ _ => pts_nil) (fun _ _ _ _ _ => (pe_cal c_is_below hr (by decide) (by rfl) (pa_cons (pv 2) (pa_cons (pv 0) pa_nil))))) pa_nil))))))), ?_⟩
    have b1 := ok.lo
    have b2 := ok.hi
    refine ⟨_, rfl, _, rfl, true, rfl, iteF ⟨_, rfl, _, _, rfl, rfl, _, rfl, ?_⟩⟩
    rw [decide_eq_true (by omega : (1 : Int) ≤ (n : Int))]
    refine iteT ⟨_, _, rfl, rfl, _, rfl, ?_⟩
    rw [decide_eq_true (by omega : (n : Int) ≤ 26)]
    refine iteF ⟨_, rfl, a, _, rfl, .inl ha, true, rfl, iteF ⟨_, rfl, _, ts, rfl, hx, _, _, rfl, rfl, _, rfl, ?_⟩⟩
    have pos := ok.pos
    rw [decide_eq_true (by omega : (0 : Int) < ((ts.length : Nat) : Int))]
    refine iteT ⟨_, rfl, a, rfl, ⟨_, .inl (.inl ha)⟩, fun D hD => lc_map (ys := ts) hD (src_tup ha) (by simp) (fun _ v _ => v = .bl true) (fun _ _ _ _ _ h => h) (by have := ok.len; simp; omega) (fun _ => rfl) (fun j y H1 hj s R hR => ?_) fun acc H1 s h2 p => ?_⟩
    · have m := ok.bd y (List.mem_of_getElem? hj)
      refine ⟨_, rfl, _, rfl, y, n, ?_, m.1, m.2, hR _ _ (same_refl _) rfl⟩
      have e : (ts.map V.int).getD j .non = .int y := by rw [List.getD_eq_getElem?_getD, List.getElem?_map, hj]; rfl
      rw [e]
      rfl
    · have e := p_true p
      refine ⟨D, ts.map fun _ => true, rfl, .inl (.inl (by rw [h2, e])), ?_⟩
      rw [all_true]
      exact q _ s

abbrev s_are_unlike : Stmt := topS 25
theorem sc_are_unlike : FnScope ["window"] ["window"] (defScope s_are_unlike) := ⟨rfl, rfl, rfl, by decide +kernel, rfl, by decide +kernel, by decide +kernel⟩
def spUnlike : Sp := fun vs H Q _ => ∃ (x : V) (ts : List Int), vs = [x] ∧ IT H x ts ∧ ts.Nodup ∧ ts.length ≤ 30 ∧ Q (.bl true) H
theorem ok_are_unlike {f : Addr} {fd : FuncData} (G : Glb mg) (F : FunS K "are_unlike" "are_unlike" s_are_unlike [] f fd) : FnOk P w K mg base CX0 1 f fd ["window"] spUnlike := by
  refine body0 F sc_are_unlike (fun vs H Q E h => ?_) (fun cdv A outer s H vs Q E hr h => ?_)
  · obtain ⟨x, ts, rfl, _⟩ := h
    rfl
  · obtain ⟨x, ts, rfl, hx, nd, len, q⟩ := h
    refine ⟨_, (pss_one (ps_ret (pe_cmpR op_eq (pe_lenSetT (by rfl) G.len (by rfl) G.set (pv 0)) (pe_callB call_lenIT (by rfl) G.len PySem.boot_len (pa_cons (pv 0) pa_nil)) (nomark _)))), ?_⟩
    exact ⟨_, rfl, ts, hx.r, nd, len, _, rfl, _, ts, rfl, hx.r, rfl, qT rfl q⟩

/-! Row.__init__ -/
abbrev s_init : Stmt := inClass (topS 26) 0
theorem sc_init : FnScope ["self", "n", "things"] ["self", "n", "things"] (defScope s_init) := ⟨rfl, rfl, rfl, by decide +kernel, rfl, by decide +kernel, by decide +kernel⟩
theorem ok_init {f : Addr} {fd : FuncData} (F : FunS K "__init__" "Row.__init__" s_init [] f fd) (c_can_be_row : CalF P w K mg base 3 "can_be_row" spCanRow) : FnOk P w K mg base CX0 4 f fd ["self", "n", "things"] (spInit K) := by
  refine body0 F sc_init (fun vs H Q E h => ?_) (fun cdv A outer s H vs Q E hr h => ?_)
  · obtain ⟨a, C, dx, n, t, ts, rfl, _⟩ := h
    rfl
  · obtain ⟨a, C, dx, n, t, ts, rfl, ha, cc, it, ok, q⟩ := h
    refine ⟨_, (pss_cons (ps_if (pt_not (pt_val (pe_cal c_can_be_row hr (by decide) (by rfl) (pa_cons (pv 1) (pa_cons (pv 2) pa_nil)))))
        (pss_one ps_never)
        pss_nil)
      (pss_cons (ps_fld (pv 0) (pv 1) rfl)
      (pss_one (ps_fld (pv 0) (pv 2) rfl)))), ?_⟩
    refine ⟨_, rfl, _, rfl, n, t, ts, rfl, it, ok, fun H1 s1 => ⟨true, rfl, iteF ?_⟩⟩
    refine ⟨_, rfl, _, rfl, a, C, dx, [], rfl, s1 _ _ ha, cc.cl, cc.nN, by decide, _, rfl, _, rfl, a, C, dx, _, rfl, upd_same, cc.cl, cc.nT, by show 1 < 1000; decide, ?_⟩
    rw [upd_upd]
    exact q H1 s1
end
end WR

-- part: WRW5
set_option Elab.async false
set_option linter.all false
set_option maxRecDepth 100000
set_option maxHeartbeats 4000000
/-! rows.py: a round row's windows -/
namespace WR
open PySem PySem.Spec PyProof.Rows L2
section
variable {P : Program} {w : World} {K : PySem.W.Frag} {mg : Str → Option Value} {base : Heap} {C : Addr}

abbrev s_wide : Stmt := inClass (topS 26) 2
theorem sc_wide : FnScope ["self", "k"] ["self", "k"] (defScope s_wide) := ⟨rfl, rfl, rfl, by decide +kernel, rfl, by decide +kernel, by decide +kernel⟩
def spWide : Sp := fun vs H Q _ => ∃ (x : V) (k : Nat), vs = [x, .int k] ∧ Q (.int k) H
theorem ok_wide {f : Addr} {fd : FuncData} {dvs : List V} (F : FunS K "wide" "Row.wide" s_wide dvs f fd) : FnOk P w K mg base CX0 1 f fd ["self", "k"] spWide := by
  refine body0 F sc_wide (fun vs H Q E h => ?_) (fun cdv A outer s H vs Q E hr h => ?_)
  · obtain ⟨x, k, rfl, _⟩ := h
    rfl
  · obtain ⟨x, k, rfl, q⟩ := h
    refine ⟨_, (pss_cons (ps_if (pt_cmpR op_isN (pv 1) pe_non (nomark _))
        (pss_one (ps_ret (pe_fld (pv 0) rfl)))
        pss_nil)
      (pss_one (ps_ret (pv 1)))), ?_⟩
    refine ⟨_, rfl, rfl, _, rfl, ?_⟩
    exact ite2 (fun z => nomatch (of_decide_eq_true z)) fun _ => ⟨_, rfl, q⟩

abbrev s_goes_round : Stmt := inClass (topS 26) 3
theorem sc_goes_round : FnScope ["self"] ["self"] (defScope s_goes_round) := ⟨rfl, rfl, rfl, by decide +kernel, rfl, by decide +kernel, by decide +kernel⟩
def spGoes : Sp := fun vs H Q _ => ∃ (x : V), vs = [x] ∧ Q (.bl true) H
theorem ok_goes_round {f : Addr} {fd : FuncData} {dvs : List V} (F : FunS K "goes_round" "Row.goes_round" s_goes_round dvs f fd) : FnOk P w K mg base CX0 1 f fd ["self"] spGoes := by
  refine body0 F sc_goes_round (fun vs H Q E h => ?_) (fun cdv A outer s H vs Q E hr h => ?_)
  · obtain ⟨x, rfl, _⟩ := h
    rfl
  · obtain ⟨x, rfl, q⟩ := h
    exact ⟨_, (pss_one (ps_ret pe_bl)), q⟩

abbrev s_how_many : Stmt := inClass (topS 26) 4
theorem sc_how_many : FnScope ["self", "k"] ["self", "k"] (defScope s_how_many) := ⟨rfl, rfl, rfl, by decide +kernel, rfl, by decide +kernel, by decide +kernel⟩
def spHow (C : Addr) : Sp := fun vs H Q _ => ∃ (x : V) (k : Nat) (n : Nat) (ts : List Int), vs = [x, .int k] ∧ RowAt C H x n ts ∧ Q (.int (ts.length : Nat)) H
theorem ok_how_many {f : Addr} {fd : FuncData} {dvs : List V} (G : Glb mg) (T : ClsOk K C) (F : FunS K "how_many" "Row.how_many" s_how_many dvs f fd) (m_goes_round : MetF P w K mg base 1 C "goes_round" spGoes) : FnOk P w K mg base CX0 2 f fd ["self", "k"] (spHow C) := by
  refine body0 F sc_how_many (fun vs H Q E h => ?_) (fun cdv A outer s H vs Q E hr h => ?_)
  · obtain ⟨x, k, n, ts, rfl, _⟩ := h
    rfl
  · obtain ⟨x, k, n, ts, rfl, row, q⟩ := h
    refine ⟨_, (pss_cons (ps_if (pt_val (pe_met0 (pv 0) T.cl m_goes_round hr (by decide)))
        (pss_one (ps_ret (pe_callB call_lenIT (by rfl) G.len PySem.boot_len (pa_cons (pe_rowT T (pv 0)) pa_nil))))
        pss_nil)
      (pss_one (ps_ret (pe_callB (call_max2 rfl) (by rfl) G.max boot_max (pa_cons pe_int (pa_cons (pe_op op_add (pe_op op_sub (pe_callB call_lenIT (by rfl) G.len PySem.boot_len (pa_cons (pe_rowT T (pv 0)) pa_nil)) (pv 1)) pe_int) pa_nil)))))), ?_⟩
    obtain ⟨a, dx, t, rfl, ha, it⟩ := id row
    exact ⟨_, rfl, a, dx, _, rfl, ha, rfl, _, rfl, true, rfl, iteT ⟨_, rfl, n, ts, row, fun t it => ⟨_, ts, rfl, it.r, q⟩⟩⟩

abbrev s_window_at : Stmt := inClass (topS 26) 5
theorem sc_window_at : FnScope ["self", "place", "k", "many", "far"] ["self", "place", "k"] (defScope s_window_at) := ⟨rfl, rfl, rfl, by decide +kernel, rfl, by decide +kernel, by decide +kernel⟩
def spWinAt (C : Addr) : Sp := fun vs H Q _ => ∃ (x : V) (p k n : Nat) (ts : List Int), vs = [x, .int p, .int k] ∧ RowAt C H x n ts ∧ p < ts.length ∧ k ≤ 10000 ∧ ∀ v H', Same H H' → IT H' v (win ts k p) → Q v H'
theorem ok_window_at {f : Addr} {fd : FuncData} {dvs : List V} (G : Glb mg) (T : ClsOk K C) (F : FunS K "window_at" "Row.window_at" s_window_at dvs f fd) : FnOk P w K mg base CX0 1 f fd ["self", "place", "k"] (spWinAt C) := by
  refine body0 F sc_window_at (fun vs H Q E h => ?_) (fun cdv A outer s H vs Q E hr h => ?_)
  · obtain ⟨x, p, k, n, ts, rfl, _⟩ := h
    rfl
  · obtain ⟨x, p, k, n, ts, rfl, row, hp, hk, q⟩ := h
    refine ⟨_, (pss_cons (ps_set (i := 3) sc_window_at.nd rfl (Or.inr rfl) (pe_callB call_lenIT (by rfl) G.len PySem.boot_len (pa_cons (pe_rowT T (pv 0)) pa_nil)))
      (pss_cons (ps_if (pt_cmpR op_le (pe_op op_add (pv 1) (pv 2)) (pv 3) (nomark _))
        (pss_one (ps_ret (pe_slice sl_IT (pe_rowT T (pv 0)) (po_some (pv 1)) (po_some (pe_op op_add (pv 1) (pv 2))))))
        pss_nil)
      (pss_one (ps_ret (pe_tupleOf (by rfl) G.tuple (pe_lc (own := [("far", 4)]) (g := gName 4) (tt := tYes) rfl sc_window_at.nd (pi_range1 (by rfl) G.range (pa_cons (pv 2) pa_nil)) (blkOk_by (by kernel_rfl)) (fun _ _ _ _ _ => pg_name (i := 4) sc_window_at.nd rfl (Or.inl rfl)) (fun _ _ _ _ _ => pts_nil)
        (fun _ _ _ _ _ => (pe_ix ix_IT (pe_rowT T (pv 0)) (pe_op op_mod (pe_op op_add (pv 1) (pv 4)) (pv 3)) (fun _ _ => rfl))))))))), ?_⟩
    refine ⟨_, rfl, n, ts, row, fun t it => ⟨_, ts, rfl, it.r, ?_⟩⟩
    refine ⟨_, rfl, _, rfl, _, _, rfl, rfl, _, rfl, _, _, rfl, rfl, _, rfl, ?_⟩
    refine ite2 (fun z => ?_) fun z => ?_
    · have z' := of_decide_eq_true z
      have le : p + k ≤ ts.length := by omega
      refine ⟨_, rfl, n, ts, row, fun t it => ⟨_, rfl, _, rfl, _, rfl, _, rfl, _, _, rfl, rfl, _, rfl, ts, p, p + k, it, sIx_some _ _ _ (by omega), ?_, fun v H' s' i' => q v H' s' ?_⟩⟩
      · rw [← Int.natCast_add]
        exact sIx_some _ _ _ le
      · rw [show p + k - p = k by omega, ← win_inner le] at i'
        exact i'
    · refine ⟨_, rfl, _, rfl, by omega, by omega, fun D hD => lct_ints (ys := win ts k p) hD (src_rng 0 k H) (win_length ..) (by omega) (fun _ => rfl) (fun j y H1 hj s1 R hR => ?_) fun v H1 s1 i1 => q v H1 s1 i1⟩
      have jk : j < k := by
        have z := (List.getElem?_eq_some_iff.mp hj).1
        rw [win_length] at z
        exact z
      rw [win_get jk] at hj
      have ey := Option.some.inj hj
      have pos : 0 < ts.length := by omega
      refine ⟨_, rfl, n, ts, row.same s1, fun t it => ⟨_, rfl, _, rfl, _, _, rfl, rfl, _, rfl, _, _, rfl, rfl, by show (0 : Int) < _; omega, ts, (p + j) % ts.length, it.r, ?_, Nat.mod_lt _ pos, ?_⟩⟩
      · show V.int (((p : Int) + (0 + (j : Int))) % ((ts.length : Nat) : Int)) = _
        rw [Int.zero_add, ← Int.natCast_add, ← Int.natCast_emod]
      · have e : ts[(p + j) % ts.length]'(Nat.mod_lt _ pos) = y := by
          rw [← ey, ext, List.getD_eq_getElem?_getD, List.getElem?_eq_getElem (Nat.mod_lt _ pos)]
          rfl
        rw [e]
        exact hR H1 (same_refl _)

abbrev s_windows : Stmt := inClass (topS 26) 6
theorem sc_windows : FnScope ["self", "k", "size", "place"] ["self", "k"] (defScope s_windows) := ⟨rfl, rfl, rfl, by decide +kernel, rfl, by decide +kernel, by decide +kernel⟩
def spWins (C : Addr) : Sp := fun vs H Q _ => ∃ (x : V) (k n : Nat) (ts : List Int), vs = [x, .int k] ∧ RowAt C H x n ts ∧ ts.length ≤ 1000 ∧ k ≤ 1000 ∧ ∀ v H', Same H H' → WT H' v (wins ts k) → Q v H'
theorem ok_windows {f : Addr} {fd : FuncData} {dvs : List V} (G : Glb mg) (T : ClsOk K C) (F : FunS K "windows" "Row.windows" s_windows dvs f fd) (m_wide : MetF P w K mg base 1 C "wide" spWide) (m_how_many : MetF P w K mg base 2 C "how_many" (spHow C)) (m_window_at : MetF P w K mg base 1 C "window_at" (spWinAt C)) :
    FnOk P w K mg base CX0 3 f fd ["self", "k"] (spWins C) := by
  refine body0 F sc_windows (fun vs H Q E h => ?_) (fun cdv A outer s H vs Q E hr h => ?_)
  · obtain ⟨x, k, n, ts, rfl, _⟩ := h
    rfl
  · obtain ⟨x, k, n, ts, rfl, row, hn, hk, q⟩ := h
    refine ⟨_, (pss_cons (ps_set (i := 2) sc_windows.nd rfl (Or.inr rfl) (pe_met (pv 0) T.cl m_wide hr (by decide) (pa_cons (pv 1) pa_nil)))
      (pss_one (ps_ret (pe_tupF (by rfl) G.tuple (pe_lc (own := [("place", 3)]) (g := gName 3) (tt := tYes) rfl sc_windows.nd (pi_range1 (by rfl) G.range (pa_cons (pe_met (pv 0) T.cl m_how_many hr (by decide) (pa_cons (pv 2) pa_nil)) pa_nil)) (blkOk_by (by kernel_rfl)) (fun _ _ _ _ _ => pg_name (i := 3) sc_windows.nd rfl (Or.inl rfl))
        (fun _ _ _ _ _ => pts_nil) (fun _ _ _ _ _ => (pe_met (pv 0) T.cl m_window_at hr (by decide) (pa_cons (pv 3) (pa_cons (pv 2) pa_nil))))))))), ?_⟩
    obtain ⟨a, dx, t, rfl, ha, it⟩ := id row
    refine ⟨_, rfl, a, dx, _, rfl, ha, rfl, _, rfl, _, k, rfl, ?_⟩
    refine ⟨_, rfl, a, dx, _, rfl, ha, rfl, _, rfl, _, k, n, ts, rfl, row, _, rfl, by omega, by omega, fun D hD => lct_its (ys := wins ts k) hD (src_rng 0 ts.length H) (wins_length ..) (by omega) (fun _ => rfl) (fun j y H1 hj s1 R hR => ?_) fun v H1 s1 i1 => q v H1 s1 i1⟩
    have jk : j < ts.length := by
      have z := (List.getElem?_eq_some_iff.mp hj).1
      rw [wins_length] at z
      exact z
    rw [wins_get jk] at hj
    refine ⟨_, rfl, a, dx, _, rfl, s1 _ _ ha, rfl, _, rfl, _, rfl, _, j, k, n, ts, ?_, row.same s1, jk, by omega, fun v H2 s2 i2 => hR v H2 s2 ?_⟩
    · show [V.ref a, V.int (0 + (j : Int)), V.int k] = _
      rw [Int.zero_add]
    · rw [← Option.some.inj hj]
      exact i2
end
end WR

-- part: WRW6
set_option Elab.async false
set_option linter.all false
set_option maxRecDepth 100000
set_option maxHeartbeats 4000000
/-! rows.py: stands, has_all, waste, just_once, opened -/
namespace WR
open PySem PySem.Spec PyProof.Rows L2
/-- tuples are kept -/
structure SameT (H H' : Hp) : Prop where
  t : ∀ a xs, H a = some (.tup xs) → H' a = some (.tup xs)
  f : ∀ a o u, H a = some (.frz o u) → H' a = some (.frz o u)
theorem same_t {H H' : Hp} (s : Same H H') : SameT H H' := ⟨fun a xs e => s a _ e, fun a o u e => s a _ e⟩
theorem SameT.trans {H H' H'' : Hp} (a : SameT H H') (b : SameT H' H'') : SameT H H'' := ⟨fun x xs e => b.t x xs (a.t x xs e), fun x o u e => b.f x o u (a.f x o u e)⟩
theorem sameT_upd {H : Hp} {D : Addr} {u o : HO} (h : H D = some u) (n1 : ∀ xs, u ≠ .tup xs) (n2 : ∀ o v, u ≠ .frz o v) : SameT H (upd H D o) := ⟨fun a ys e => by
  rw [upd_ne fun z => by rw [z, h] at e; exact n1 ys (Option.some.inj e)]
  exact e, fun a ob v e => by
  rw [upd_ne fun z => by rw [z, h] at e; exact n2 ob v (Option.some.inj e)]
  exact e⟩
theorem SameT.lst {H : Hp} {D : Addr} {xs : List V} {o : HO} (h : H D = some (.lst xs)) : SameT H (upd H D o) := sameT_upd h (fun _ e => HO.noConfusion e) (fun _ _ e => HO.noConfusion e)
theorem SameT.dT {H : Hp} {D : Addr} {kvs : List (List Key × V)} {o : HO} (h : H D = some (.dT kvs)) : SameT H (upd H D o) := sameT_upd h (fun _ e => HO.noConfusion e) (fun _ _ e => HO.noConfusion e)
theorem IT.t {H H' : Hp} {v : V} {ts : List Int} (s : SameT H H') (h : IT H v ts) : IT H' v ts := by
  obtain ⟨a, e, h⟩ := h
  exact ⟨a, e, s.t _ _ h⟩
theorem Its.t {H H' : Hp} {vs : List V} {ws : List (List Int)} (s : SameT H H') (h : Its H vs ws) : Its H' vs ws := Paired.mapP h fun _ _ => IT.t s
theorem TupF.t {H H' : Hp} {a : Addr} {vs : List V} (s : SameT H H') (h : TupF H a vs) : TupF H' a vs := by
  obtain ⟨o, h, r⟩ := h
  exact ⟨o, s.f _ _ _ h, r⟩
/-- what a loop's reading asks, once its source is known -/
def ForG (J : It) (g : TG) (tb : TS) (D : Ends) (σ : L2.St) (H : Hp) : Prop := ∃ W : Nat → Nat → L2.St → Hp → Prop,
  (∃ m, W 0 m σ H) ∧ ∀ i m σ H, W i m σ H → (J.stop i H ∧ D.nx σ H) ∨ (J.go i H ∧ ∃ N : L2.St → Hp → Prop,
    (∀ σ' H', N σ' H' → ∃ m', m' < m ∧ W (i + 1) m' σ' H') ∧ ∀ x H', J.yld i H x H' →
      g x σ H' fun σ2 H2 => tb { D with nx := N, ct := N, bk := D.nx } σ2 H2)
theorem for_enT {K : PySem.W.Frag} {a : Addr} {xs : List V} {g : TG} {tb : TS} {D : Ends} {σ : L2.St} {H : Hp} (Pv : Nat → L2.St → Hp → Prop) (h0 : Pv 0 σ H) (hl : ∀ i σ H, Pv i σ H → TupF H a xs)
    (hs : ∀ i x σ H T, xs[i]? = some x → Pv i σ H → H T = none → g (.ref T) σ (upd H T (.tup [.int (i : Nat), x])) fun σ2 H2 => tb { D with nx := Pv (i + 1), ct := Pv (i + 1), bk := D.nx } σ2 H2) (hd : ∀ σ H, Pv xs.length σ H → D.nx σ H) : ForG (ItEt K a) g tb D σ H := by
  refine ⟨fun i m σ H => m = xs.length - i ∧ i ≤ xs.length ∧ Pv i σ H, ⟨_, rfl, Nat.zero_le _, h0⟩, ?_⟩
  rintro i m σ H ⟨rfl, hi, p⟩
  have q := hl i σ H p
  by_cases lt : i < xs.length
  · refine .inr ⟨⟨xs, xs[i], .inl q.rd, List.getElem?_eq_getElem lt⟩, Pv (i + 1), fun σ' H' p' => ⟨xs.length - (i + 1), by omega, rfl, lt, p'⟩, fun v H' ⟨T, x, ev, hT, eH, hx⟩ => ?_⟩
    subst ev eH
    exact hs i x σ H T (hx xs (.inl q.rd)) p hT
  · obtain rfl : i = xs.length := by omega
    exact .inl ⟨⟨xs, .inl q.rd, Nat.le_refl _⟩, hd σ H p⟩
/-- enumerate(xs), xs a list -/
theorem for_enL {K : PySem.W.Frag} {a : Addr} {xs : List V} {g : TG} {tb : TS} {D : Ends} {σ : L2.St} {H : Hp} (Pv : Nat → L2.St → Hp → Prop) (h0 : Pv 0 σ H) (hl : ∀ i σ H, Pv i σ H → H a = some (.lst xs))
    (hs : ∀ i x σ H T, xs[i]? = some x → Pv i σ H → H T = none → g (.ref T) σ (upd H T (.tup [.int (i : Nat), x])) fun σ2 H2 => tb { D with nx := Pv (i + 1), ct := Pv (i + 1), bk := D.nx } σ2 H2) (hd : ∀ σ H, Pv xs.length σ H → D.nx σ H) : ForG (Ite K a) g tb D σ H := by
  refine ⟨fun i m σ H => m = xs.length - i ∧ i ≤ xs.length ∧ Pv i σ H, ⟨_, rfl, Nat.zero_le _, h0⟩, ?_⟩
  rintro i m σ H ⟨rfl, hi, p⟩
  have q := hl i σ H p
  by_cases lt : i < xs.length
  · refine .inr ⟨⟨xs, xs[i], .inl (.inl q), List.getElem?_eq_getElem lt⟩, Pv (i + 1), fun σ' H' p' => ⟨xs.length - (i + 1), by omega, rfl, lt, p'⟩, fun v H' ⟨T, x, ev, hT, eH, hx⟩ => ?_⟩
    subst ev eH
    exact hs i x σ H T (hx xs (.inl (.inl q))) p hT
  · obtain rfl : i = xs.length := by omega
    exact .inl ⟨⟨xs, .inl (.inl q), Nat.le_refl _⟩, hd σ H p⟩
section
variable {P : Program} {w : World} {K : PySem.W.Frag} {mg : Str → Option Value} {base : Heap} {C : Addr}

abbrev s_stands : Stmt := inClass (topS 26) 7
theorem sc_stands : FnScope ["self", "k", "found", "known", "place", "window"] ["self", "k"] (defScope s_stands) := ⟨rfl, rfl, rfl, by decide +kernel, rfl, by decide +kernel, by decide +kernel⟩
def spStands (C : Addr) : Sp := fun vs H Q _ => ∃ (x : V) (k n : Nat) (ts : List Int), vs = [x, .int k] ∧ RowAt C H x n ts ∧ ts.length ≤ 1000 ∧ k ≤ 30 ∧ (wins ts k).Nodup ∧ (∀ u ∈ wins ts k, u.Nodup) ∧ ∀ p vs H', Same H H' → H' p = some (.tup vs) → vs.length = ts.length → Q (.ref p) H'
theorem ok_stands {f : Addr} {fd : FuncData} {dvs : List V} (G : Glb mg) (T : ClsOk K C) (F : FunS K "stands" "Row.stands" s_stands dvs f fd) (m_windows : MetF P w K mg base 3 C "windows" (spWins C)) (c_are_unlike : CalF P w K mg base 1 "are_unlike" spUnlike) : FnOk P w K mg base CX0 4 f fd ["self", "k"] (spStands C) := by
  refine body0 F sc_stands (fun vs H Q E h => ?_) (fun cdv A outer s H vs Q E hr h => ?_)
  · obtain ⟨x, k, n, ts, rfl, _⟩ := h
    rfl
  · obtain ⟨x, k, n, ts, rfl, row, hn, hk, nd, ndw, q⟩ := h
    refine ⟨_, pss_cons (ps_set (i := 2) sc_stands.nd rfl (Or.inl rfl) (pe_lst pa_nil))
      (pss_cons (ps_set (i := 3) sc_stands.nd rfl (Or.inl rfl) pe_dnewT)
      (pss_cons (ps_for PassesOwn.never rfl (pi_enumT (by rfl) G.enumerate (pa_cons (pe_met (pv 0) T.cl m_windows hr (by decide) (pa_cons (pv 1) pa_nil)) pa_nil)) (pg_tup rfl (pgs_cons (pg_name (i := 4) sc_stands.nd rfl (Or.inl rfl)) (pgs_cons (pg_name (i := 5) sc_stands.nd rfl (Or.inl rfl)) pgs_nil)))
        (pss_one (ps_if (PW.pt (pw_and (pt_cmp (pc_dnotin (hu_of hr) (pv 5) (pv 3))) (pw_and1 (pt_val (pe_cal c_are_unlike hr (by decide) (by rfl) (pa_cons (pv 5) pa_nil))))))
          (pss_cons (ps_dput (hu_of hr) (pv 3) (pv 5) pe_bl rfl)
          (pss_one (ps_expr (pe_bm PySem.F.plainAttrs_list PySem.F.slot_list_append PySem.F.type_list_append mt_append (pv 2) (pa_cons (pe_tup (pa_cons (pv 5) (pa_cons (pv 4) pa_nil))) pa_nil)))))
          pss_nil)))
      (pss_one (ps_ret (pe_tupleOf (by rfl) G.tuple (pv 2)))))), ?_⟩
    obtain ⟨a, dx, t, rfl, ha, it⟩ := id row
    refine ⟨by decide, fun fo hfo => ?_⟩
    intro d hd
    have s1 := same_new (o := .lst []) hfo
    have s2 := same_trans s1 (same_new (o := .dT []) hd)
    have nfd : fo ≠ d := ne_of_none upd_same hd
    have hd0 : H d = none := by
      cases z : H d with
      | none => rfl
      | some o => rw [s1 _ _ z] at hd; exact nomatch hd
    refine ⟨_, rfl, a, dx, _, rfl, s2 _ _ ha, rfl, _, rfl, _, k, n, ts, rfl, row.same s2, hn, by omega, fun v H3 s3 hv => ?_⟩
    obtain ⟨wa, wvs, rfl, hwa, its⟩ := hv
    have lw : wvs.length = ts.length := by rw [its.length, wins_length]
    refine ⟨wa, wvs, rfl, .inl hwa.rd, for_enT (xs := wvs) (fun i σ H' => ∃ x4 x5 kvs acc, σ = [some (.ref a), some (.int k), some (.ref fo), some (.ref d), x4, x5] ∧ Same H H' ∧ H' fo = some (.lst acc) ∧ acc.length = i ∧ H' d = some (.dT kvs) ∧ Keys kvs ((wins ts k).take i) ∧
      TupF H' wa wvs ∧ Its H' wvs (wins ts k)) ?_ (fun i σ H' ⟨x4, x5, kvs, acc, _, _, _, _, _, _, h, _⟩ => h) (fun i x σ H' Ta hx p hT => ?_) fun σ H' p => ?_⟩
    · refine ⟨none, none, [], [], rfl, same_trans s2 s3, s3 _ _ ?_, rfl, s3 _ _ upd_same, Keys.nil, hwa, its⟩
      rw [upd_ne nfd]
      exact upd_same
    · obtain ⟨x4, x5, kvs, acc, rfl, sm, h1, e1, h2, ky, h3, its'⟩ := p
      obtain ⟨u, hu, iu⟩ := p_at1 its' hx
      have hi : i < (wins ts k).length := (List.getElem?_eq_some_iff.mp hu).1
      have um : u ∈ wins ts k := List.mem_of_getElem? hu
      have ul : u.length ≤ 30 := by
        obtain ⟨p, _, rfl⟩ := mem_wins.mp um
        rw [win_length]
        omega
      have sT := same_new (o := .tup [.int (i : Nat), x]) hT
      have g1 := sT _ _ h1
      have g2 := sT _ _ h2
      have g3 := h3.same sT
      have gi := its'.same sT
      have gu := iu.same sT
      have gs := same_trans sm sT
      refine ⟨Ta, _, rfl, .inl (.inl upd_same), rfl, _, _, rfl, _, _, rfl, rfl, ?_⟩
      generalize upd H' Ta (.tup [.int (i : Nat), x]) = H4 at g1 g2 g3 gi gu gs ⊢
      obtain ⟨ua, rfl, hua⟩ := gu
      have nin : valV kvs (kk u) = none := by
        have z := ky.mem u
        rw [decide_eq_false fun c => ?_] at z
        · simpa using z
        · obtain ⟨j, j1, j2⟩ := List.getElem_of_mem c
          rw [List.length_take] at j1
          rw [List.getElem_take] at j2
          have e : (wins ts k)[i]'hi = u := (List.getElem?_eq_some_iff.mp hu).2
          exact absurd (j2.trans e.symm) (List.pairwise_iff_getElem.mp nd j i (by omega) hi (by omega))
      have hua' : H4 ua = some (.tup ((kk u).map kV)) := by rw [kk_v]; exact hua
      refine ⟨_, rfl, _, rfl, d, _, rfl, DGet.t g2 hua', _, rfl, ?_⟩
      rw [nin]
      refine iteT ⟨_, rfl, _, u, rfl, ⟨ua, rfl, hua⟩, ndw u um, ul, true, rfl, iteT ?_⟩
      have klen : kvs.length < sizeLine := szlt (by have := ky.le; rw [List.length_take, wins_length] at this; omega)
      refine ⟨_, rfl, _, rfl, d, _, rfl, DPut.t g2 hua' klen, ?_⟩
      have nfo : fo ≠ d := ne_of h1 h2 (by intro z; cases z)
      have t1 := SameT.dT (o := .dT (putK kvs (kk u) (.bl true))) g2
      have k1 : upd H4 d (.dT (putK kvs (kk u) (.bl true))) fo = some (.lst acc) := by rw [upd_ne nfo]; exact g1
      have k2 : upd H4 d (.dT (putK kvs (kk u) (.bl true))) d = some (.dT (putK kvs (kk u) (.bl true))) := upd_same
      have k3 := g3.t t1
      have ki := gi.t t1
      have ks := same_mut (o := .dT (putK kvs (kk u) (.bl true))) gs hd0
      generalize upd H4 d (.dT (putK kvs (kk u) (.bl true))) = H5 at t1 k1 k2 k3 ki ks ⊢
      refine ⟨_, rfl, .inl ⟨rfl, _, .inl (.inl k1)⟩, _, rfl, _, rfl, (by show 2 ≤ sizeLine; decide), fun b hb => ⟨fo, _, _, rfl, rfl, ?_, szlt (by rw [e1]; rw [wins_length] at hi; omega), ?_⟩⟩
      · exact same_new hb _ _ k1
      · have l1 := same_new (o := .tup [.ref ua, .int (i : Nat)]) hb
        have m1 := l1 _ _ k1
        have m2 := l1 _ _ k2
        have m3 := k3.same l1
        have mi := ki.same l1
        have ms := same_trans ks l1
        refine ⟨_, _, putK kvs (kk u) (.bl true), _, rfl, same_mut ms hfo, upd_same, by rw [List.length_append, e1]; rfl, ?_, ?_, ?_, mi.t (SameT.lst m1)⟩
        · rw [upd_ne (Ne.symm nfo)]
          exact m2
        · rw [List.take_add_one, hu]
          exact ky.put u (.bl true)
        · exact m3.t (SameT.lst m1)
    · obtain ⟨x4, x5, kvs, acc, rfl, sm, h1, e1, h2, ky, h3, its'⟩ := p
      refine ⟨_, rfl, .inl ⟨fo, acc, rfl, .inl (.inl h1), fun p hp => q p acc _ (same_trans sm (same_new hp)) upd_same (by rw [e1, lw])⟩⟩
end
end WR

-- part: WRW7
set_option Elab.async false
set_option linter.all false
set_option maxRecDepth 100000
set_option maxHeartbeats 4000000
/-! rows.py: has_all, waste, just_once, opened -/
namespace WR
open PySem PySem.Spec PyProof.Rows L2
theorem win_bd {n : Nat} {ts : List Int} (h : RowOk n ts) (k p : Nat) : ∀ x ∈ win ts k p, 0 ≤ x ∧ x < (n : Int) := fun x hx => by
  obtain ⟨j, _, rfl⟩ := List.mem_map.mp hx
  exact h.bd _ (ext_mem h.ne _)
section
variable {P : Program} {w : World} {K : PySem.W.Frag} {mg : Str → Option Value} {base : Heap} {C CP : Addr}

abbrev s_has_all : Stmt := inClass (topS 26) 9
theorem sc_has_all : FnScope ["self", "k"] ["self", "k"] (defScope s_has_all) := ⟨rfl, rfl, rfl, by decide +kernel, rfl, by decide +kernel, by decide +kernel⟩
def spOnce (C : Addr) (y : V) : Sp := fun vs H Q _ => ∃ (x : V) (k n : Nat) (ts : List Int), vs = [x, .int k] ∧ RowAt C H x n ts ∧ RowOk n ts ∧ k ≤ n ∧ RoundOk n k ts ∧ ∀ H', Same H H' → Q y H'
theorem ok_has_all {f : Addr} {fd : FuncData} {dvs : List V} (G : Glb mg) (T : ClsOk K C) (F : FunS K "has_all" "Row.has_all" s_has_all dvs f fd) (m_stands : MetF P w K mg base 4 C "stands" (spStands C)) (m_wide : MetF P w K mg base 1 C "wide" spWide) (c_count : CalF P w K mg base 1 "count" spCount) :
    FnOk P w K mg base CX0 5 f fd ["self", "k"] (spOnce C (.bl true)) := by
  refine body0 F sc_has_all (fun vs H Q E h => ?_) (fun cdv A outer s H vs Q E hr h => ?_)
  · obtain ⟨x, k, n, ts, rfl, _⟩ := h
    rfl
  · obtain ⟨x, k, n, ts, rfl, row, ok, hk, ro, q⟩ := h
    refine ⟨_, (pss_one (ps_ret (pe_cmpR op_eq (pe_callB call_lenV (by rfl) G.len PySem.boot_len (pa_cons (pe_met (pv 0) T.cl m_stands hr (by decide) (pa_cons (pv 1) pa_nil)) pa_nil)) (pe_cal c_count hr (by decide) (by rfl) (pa_cons (pe_rowN T (pv 0)) (pa_cons (pe_met (pv 0) T.cl m_wide hr (by decide) (pa_cons (pv 1) pa_nil)) pa_nil))) (nomark _)))), ?_⟩
    obtain ⟨a, dx, t, rfl, ha, it⟩ := id row
    have on := ro.once hk
    refine ⟨_, rfl, a, dx, _, rfl, ha, rfl, _, rfl, _, k, n, ts, rfl, row, ok.len, by have := ok.hi; omega, on.nd, fun u hu => (on.ch u hu).nd, fun p vs H1 s1 h1 e1 => ?_⟩
    refine ⟨p, vs, rfl, .inl h1, _, rfl, n, ts, row.same s1, _, rfl, a, dx, _, rfl, s1 _ _ ha, rfl, _, rfl, _, k, rfl, n, k, rfl, hk, ok.hi, rfl, qT ?_ (q _ s1)⟩
    rw [e1, ro.length]

abbrev s_waste : Stmt := inClass (topS 26) 10
theorem sc_waste : FnScope ["self", "k"] ["self", "k"] (defScope s_waste) := ⟨rfl, rfl, rfl, by decide +kernel, rfl, by decide +kernel, by decide +kernel⟩
theorem ok_waste {f : Addr} {fd : FuncData} {dvs : List V} (G : Glb mg) (T : ClsOk K C) (F : FunS K "waste" "Row.waste" s_waste dvs f fd) (m_stands : MetF P w K mg base 4 C "stands" (spStands C)) (m_wide : MetF P w K mg base 1 C "wide" spWide) (m_how_many : MetF P w K mg base 2 C "how_many" (spHow C)) :
    FnOk P w K mg base CX0 5 f fd ["self", "k"] (spOnce C (.int 0)) := by
  refine body0 F sc_waste (fun vs H Q E h => ?_) (fun cdv A outer s H vs Q E hr h => ?_)
  · obtain ⟨x, k, n, ts, rfl, _⟩ := h
    rfl
  · obtain ⟨x, k, n, ts, rfl, row, ok, hk, ro, q⟩ := h
    refine ⟨_, (pss_one (ps_ret (pe_op op_sub (pe_met (pv 0) T.cl m_how_many hr (by decide) (pa_cons (pe_met (pv 0) T.cl m_wide hr (by decide) (pa_cons (pv 1) pa_nil)) pa_nil)) (pe_callB call_lenV (by rfl) G.len PySem.boot_len (pa_cons (pe_met (pv 0) T.cl m_stands hr (by decide) (pa_cons (pv 1) pa_nil)) pa_nil))))), ?_⟩
    obtain ⟨a, dx, t, rfl, ha, it⟩ := id row
    have on := ro.once hk
    refine ⟨_, rfl, a, dx, _, rfl, ha, rfl, _, rfl, a, dx, _, rfl, ha, rfl, _, rfl, _, k, rfl, _, k, n, ts, rfl, row, ?_⟩
    refine ⟨_, rfl, a, dx, _, rfl, ha, rfl, _, rfl, _, k, n, ts, rfl, row, ok.len, by have := ok.hi; omega, on.nd, fun u hu => (on.ch u hu).nd, fun p vs H1 s1 h1 e1 => ⟨p, vs, rfl, .inl h1, _, _, rfl, rfl, ?_⟩⟩
    rw [e1]
    show Q (V.int (((ts.length : Nat) : Int) - ((ts.length : Nat) : Int))) H1
    rw [Int.sub_self]
    exact q _ s1

abbrev s_just_once : Stmt := inClass (topS 26) 11
theorem sc_just_once : FnScope ["self", "k"] ["self", "k"] (defScope s_just_once) := ⟨rfl, rfl, rfl, by decide +kernel, rfl, by decide +kernel, by decide +kernel⟩
theorem ok_just_once {f : Addr} {fd : FuncData} {dvs : List V} (T : ClsOk K C) (F : FunS K "just_once" "Row.just_once" s_just_once dvs f fd) (m_has_all : MetF P w K mg base 5 C "has_all" (spOnce C (.bl true))) (m_waste : MetF P w K mg base 5 C "waste" (spOnce C (.int 0))) :
    FnOk P w K mg base CX0 6 f fd ["self", "k"] (spOnce C (.bl true)) := by
  refine body0 F sc_just_once (fun vs H Q E h => ?_) (fun cdv A outer s H vs Q E hr h => ?_)
  · obtain ⟨x, k, n, ts, rfl, _⟩ := h
    rfl
  · obtain ⟨x, k, n, ts, rfl, row, ok, hk, ro, q⟩ := h
    refine ⟨_, (pss_one (ps_ret (pe_and (pe_met (pv 0) T.cl m_has_all hr (by decide) (pa_cons (pv 1) pa_nil)) (pe_one (pe_cmpR op_eq (pe_met (pv 0) T.cl m_waste hr (by decide) (pa_cons (pv 1) pa_nil)) pe_int (nomark _)))))), ?_⟩
    obtain ⟨a, dx, t, rfl, ha, it⟩ := id row
    refine ⟨_, rfl, a, dx, _, rfl, ha, rfl, _, rfl, _, k, n, ts, rfl, row, ok, hk, ro, fun H1 s1 => ⟨true, rfl, iteT ?_⟩⟩
    exact ⟨_, rfl, a, dx, _, rfl, s1 _ _ ha, rfl, _, rfl, _, k, n, ts, rfl, row.same s1, ok, hk, ro, fun H2 s2 => ⟨rfl, qT rfl (q _ (same_trans s1 s2))⟩⟩

/-! Round.opened -/
abbrev s_opened : Stmt := inClass (topS 28) 1
theorem sc_opened : FnScope ["self", "place", "k", "many"] ["self", "place", "k"] (defScope s_opened) := ⟨rfl, rfl, rfl, by decide +kernel, rfl, by decide +kernel, by decide +kernel⟩
def spOpened (C CP : Addr) : Sp := fun vs H Q _ => ∃ (x : V) (p k n : Nat) (ts : List Int), vs = [x, .int p, .int k] ∧ RowAt C H x n ts ∧ RowOk n ts ∧ p < ts.length ∧ ts.length ≤ 950 ∧ 1 ≤ k ∧ k ≤ 26 ∧ ∀ v H', Same H H' → RowAt CP H' v n (win ts (ts.length + k - 1) p) → Q v H'
theorem ok_opened {f : Addr} {fd : FuncData} {dvs : List V} (G : Glb mg) (T : ClsOk K C) (TP : ClsOk K CP) (F : FunS K "opened" "Round.opened" s_opened dvs f fd) (c_is_below : CalF P w K mg base 2 "is_below" spBelow) (m_Plain : MakF P w K mg base 4 "Plain" CP (spInit K))
    (m_window_at : MetF P w K mg base 1 C "window_at" (spWinAt C)) (m_wide : MetF P w K mg base 1 C "wide" spWide) : FnOk P w K mg base CX0 6 f fd ["self", "place", "k"] (spOpened C CP) := by
  refine body0 F sc_opened (fun vs H Q E h => ?_) (fun cdv A outer s H vs Q E hr h => ?_)
  · obtain ⟨x, p, k, n, ts, rfl, _⟩ := h
    rfl
  · obtain ⟨x, p, k, n, ts, rfl, row, ok, hp, hl, h1, hk, q⟩ := h
    refine ⟨_, (pss_cons (ps_set (i := 3) sc_opened.nd rfl (Or.inl rfl) (pe_callB call_lenIT (by rfl) G.len PySem.boot_len (pa_cons (pe_rowT T (pv 0)) pa_nil)))
      (pss_cons (ps_if (pt_not (pt_val (pe_cal c_is_below hr (by decide) (by rfl) (pa_cons (pv 1) (pa_cons (pv 3) pa_nil)))))
        (pss_one ps_never)
        pss_nil)
      (pss_one (ps_ret (pe_row m_Plain TP hr (by decide) (by rfl) (pa_cons (pe_rowN T (pv 0)) (pa_cons (pe_met (pv 0) T.cl m_window_at hr (by decide) (pa_cons (pv 1) (pa_cons (pe_op op_sub (pe_op op_add (pv 3) (pe_met (pv 0) T.cl m_wide hr (by decide) (pa_cons (pv 2) pa_nil))) pe_int) pa_nil))) pa_nil))))))), ?_⟩
    obtain ⟨a, dx, t, rfl, ha, it⟩ := id row
    refine ⟨_, rfl, n, ts, row, fun t it => ⟨_, ts, rfl, it.r, ?_⟩⟩
    refine ⟨_, rfl, _, rfl, p, ts.length, rfl, by omega, by omega, true, rfl, iteF ?_⟩
    refine ⟨_, rfl, n, ts, row, _, rfl, a, dx, _, rfl, ha, rfl, _, rfl, _, rfl, _, rfl, a, dx, _, rfl, ha, rfl, _, rfl, _, k, rfl, _, _, rfl, rfl, _, _, rfl, rfl, _, p, ts.length + k - 1, n, ts, ?_, row, hp, by omega, fun v H1 s1 i1 => ?_⟩
    · show [V.ref a, V.int p, V.int (((ts.length : Nat) : Int) + (k : Int) - 1)] = _
      rw [show ((ts.length : Nat) : Int) + (k : Int) - 1 = ((ts.length + k - 1 : Nat) : Int) by omega]
    · refine ⟨n, v, _, rfl, i1, ⟨ok.lo, ok.hi, ?_, by rw [win_length]; omega, win_bd ok _ _⟩, fun v2 H2 s2 r2 => q v2 H2 (same_trans s1 s2) r2⟩
      intro e
      have z := congrArg List.length e
      rw [win_length, List.length_nil] at z
      omega
end
end WR

-- part: WRW8
set_option Elab.async false
set_option linter.all false
set_option maxRecDepth 100000
set_option maxHeartbeats 1000000
/-! joining.py -/
namespace WR
open PySem PySem.Spec PyProof.Rows L2
theorem wins_zero (ts : List Int) : wins ts 0 = ts.map fun _ => [] := by
  unfold wins
  refine List.ext_getElem (by simp) fun i h1 h2 => ?_
  simp [win]
theorem filt_fm (us ws : List (List Int)) : (List.range ws.length).filterMap (fun j => (ws[j]?).bind fun u => if decide (u ∈ us) = true then some u else none) = ws.filter fun u => decide (u ∈ us) := by
  have key : ∀ n, n ≤ ws.length → (List.range n).filterMap (fun j => (ws[j]?).bind fun u => if decide (u ∈ us) = true then some u else none) = (ws.take n).filter fun u => decide (u ∈ us) := by
    intro n
    induction n with
    | zero => intro _; rfl
    | succ n ih =>
      intro h
      have e := List.getElem?_eq_getElem (l := ws) (i := n) h
      rw [List.range_succ, List.filterMap_append, ih (by omega), List.take_add_one, e, List.filter_append]
      congr 1
      by_cases c : ws[n] ∈ us
      · simp [e, c]
      · simp [e, c]
  rw [key _ (Nat.le_refl _), List.take_length]
section
variable {P : Program} {w : World} {K : PySem.W.Frag} {mg : Str → Option Value} {base : Heap} {C : Addr}

abbrev s_heads : Stmt := topS 30
theorem sc_heads : FnScope ["row", "k", "thing"] ["row", "k"] (defScope s_heads) := ⟨rfl, rfl, rfl, by decide +kernel, rfl, by decide +kernel, by decide +kernel⟩
def spHeads (C : Addr) : Sp := fun vs H Q _ => ∃ (x : V) (k n : Nat) (ts : List Int), vs = [x, .int k] ∧ RowAt C H x n ts ∧ ts.length ≤ 1000 ∧ 1 ≤ k ∧ k ≤ 30 ∧ ∀ v H', Same H H' → WT H' v (wins ts (k - 1)) → Q v H'
theorem ok_heads {f : Addr} {fd : FuncData} (G : Glb mg) (T : ClsOk K C) (F : FunS K "heads" "heads" s_heads [] f fd) (m_windows : MetF P w K mg base 3 C "windows" (spWins C)) : FnOk P w K mg base CX0 4 f fd ["row", "k"] (spHeads C) := by
  refine body0 F sc_heads (fun vs H Q E h => ?_) (fun cdv A outer s H vs Q E hr h => ?_)
  · obtain ⟨x, k, n, ts, rfl, _⟩ := h
    rfl
  · obtain ⟨x, k, n, ts, rfl, row, hn, h1, hk, q⟩ := h
    refine ⟨_, (pss_cons (ps_if (pt_cmpR op_eq (pv 1) pe_int (nomark _))
        (pss_one (ps_ret (pe_tupF (by rfl) G.tuple (pe_lc (own := [("thing", 2)]) (g := gName 2) (tt := tYes) rfl sc_heads.nd (pi_tup (pe_rowT T (pv 0))) (blkOk_by (by kernel_rfl)) (fun _ _ _ _ _ => pg_name (i := 2) sc_heads.nd rfl (Or.inl rfl)) (fun _ _ _ _ _ => pts_nil) (fun _ _ _ _ _ => (pe_tup pa_nil))))))
        pss_nil)
      (pss_one (ps_ret (pe_met (pv 0) T.cl m_windows hr (by decide) (pa_cons (pe_op op_sub (pv 1) pe_int) pa_nil))))), ?_⟩
    refine ⟨_, rfl, rfl, _, rfl, ite2 (fun z => ?_) fun z => ?_⟩
    · have z1 := of_decide_eq_true z
      injection z1 with z2
      obtain rfl : k = 1 := by omega
      refine ⟨_, rfl, n, ts, row, fun t it => ?_⟩
      obtain ⟨ta, rfl, hta⟩ := it
      refine ⟨ta, rfl, ⟨_, .inl (.inl hta)⟩, fun D hD => lct_its (ys := wins ts 0) hD (src_tup hta) (by rw [wins_length, List.length_map]) (by rw [List.length_map]; omega) (fun _ => rfl) (fun j y H1 hj s1 R hR => ?_) fun v H1 s1 i1 => q v H1 s1 i1⟩
      have ey : y = [] := by
        have m := List.mem_of_getElem? hj
        rw [wins_zero] at m
        obtain ⟨_, _, e⟩ := List.mem_map.mp m
        exact e.symm
      subst ey
      exact ⟨by decide, fun p hp => hR _ _ (same_new hp) ⟨p, rfl, upd_same⟩⟩
    · obtain ⟨a, dx, t, rfl, ha, it⟩ := id row
      refine ⟨_, rfl, a, dx, _, rfl, ha, rfl, _, rfl, _, _, rfl, rfl, _, k - 1, n, ts, ?_, row, hn, by omega, q⟩
      show [V.ref a, V.int ((k : Int) - 1)] = _
      rw [show (k : Int) - 1 = ((k - 1 : Nat) : Int) by omega]

abbrev s_least_of_both : Stmt := topS 31
theorem sc_least_of_both : FnScope ["some", "others", "known", "window"] ["some", "others"] (defScope s_least_of_both) := ⟨rfl, rfl, rfl, by decide +kernel, rfl, by decide +kernel, by decide +kernel⟩
def spLeast : Sp := fun vs H Q _ => ∃ (x y : V) (us ws : List (List Int)), vs = [x, y] ∧ WT H x us ∧ WT H y ws ∧ us.length ≤ 1000 ∧ ws.length ≤ 1000 ∧ (∀ v u H', Same H H' → u ∈ us → u ∈ ws → IT H' v u → Q v H') ∧ ((∀ u ∈ ws, u ∉ us) → ∀ H', Same H H' → Q .non H')
theorem ok_least {f : Addr} {fd : FuncData} (G : Glb mg) (F : FunS K "least_of_both" "least_of_both" s_least_of_both [] f fd) : FnOk P w K mg base CX0 1 f fd ["some", "others"] spLeast := by
  refine body0 F sc_least_of_both (fun vs H Q E h => ?_) (fun cdv A outer s H vs Q E hr h => ?_)
  · obtain ⟨x, y, us, ws, rfl, _⟩ := h
    rfl
  · obtain ⟨x, y, us, ws, rfl, ⟨xa, xs, rfl, hx, ix⟩, ⟨ya, ys, rfl, hy, iy⟩, h1, h2, q1, q2⟩ := h
    refine ⟨_, (pss_cons (ps_set (i := 2) sc_least_of_both.nd rfl (Or.inr rfl) (pe_callTy (cr_dictW hr.units rfl) (by rfl) G.dict PyProof.Rows.boot_dict (pa_cons (pe_lc (own := [("window", 3)]) (g := gName 3) (tt := tYes) rfl sc_least_of_both.nd (pi_tup (pv 0)) (blkOk_by (by kernel_rfl)) (fun _ _ _ _ _ => pg_name (i := 3) sc_least_of_both.nd rfl (Or.inl rfl)) (fun _ _ _ _ _ => pts_nil) (fun _ _ _ _ _ => (pe_tup (pa_cons (pv 3) (pa_cons pe_bl pa_nil))))) pa_nil)))
      (pss_one (ps_ret (pe_callBK (cr_minDef hr.units rfl) (by rfl) G.min boot_min (pa_cons (pe_lc (own := [("window", 3)]) (g := gName 3) rfl sc_least_of_both.nd (pi_tup (pv 1)) (blkOk_by (by kernel_rfl)) (fun _ _ _ _ _ => pg_name (i := 3) sc_least_of_both.nd rfl (Or.inl rfl)) (fun _ _ _ _ _ => pts_one (pt_cmp (pc_din (hu_of hr) (pv 3) (pv 2)) (by with_unfolding_all rfl))) (fun _ _ _ _ _ => (pv 3))) pa_nil) (pk_cons pe_non pk_nil))))), ?_⟩
    have lx := ix.length
    have ly := iy.length
    refine ⟨_, rfl, xa, rfl, ⟨_, .inl hx.rd⟩, fun D hD => lc_map (ys := us) hD (src_tupF hx) lx.symm (fun H v u => ∃ p b, v = .ref p ∧ H p = some (.tup [.ref b, .bl true]) ∧ H b = some (.tup (u.map V.int))) (fun H H' v u s ⟨p, b, e, a1, a2⟩ => ⟨p, b, e, s _ _ nofun a1, s _ _ nofun a2⟩) (by omega) (fun _ => rfl) (fun j u H1 hj s1 R hR => ?_) fun acc H1 s1 hl pr => ?_⟩
    · obtain ⟨v, hv, iv⟩ := p_at2 ix hj
      obtain ⟨b, rfl, hb⟩ := iv.same s1
      refine ⟨_, rfl, (by show 2 ≤ sizeLine; decide), fun p hp => hR _ _ (same_new hp) ⟨p, b, rfl, ?_, same_new hp _ _ hb⟩⟩
      have e : xs.getD j .non = .ref b := by rw [List.getD_eq_getElem?_getD, hv]; rfl
      rw [e]
      exact upd_same
    · refine ⟨D, acc, us, rfl, hl, pr, fun y H2 s2 dk => ?_⟩
      have sH2 := same_trans s1 s2
      refine ⟨_, rfl, ya, rfl, ⟨_, .inl (hy.same sH2).rd⟩, fun D2 hD2 => lc_same (β := List Int) hD2 (src_tupF (hy.same sH2)) (fun j => (ws[j]?).bind fun u => if decide (u ∈ us) = true then some u else none) IT (fun _ _ _ _ s h => IT.n s h) (by omega) (fun _ => rfl) (fun j H3 hj s3 R hR => ?_) (fun j u H3 hj e s3 R hR => ?_) fun acc2 H3 s3 hl2 pr2 => ?_⟩
      · obtain ⟨v, u, hv, hu⟩ : ∃ v u, ys[j]? = some v ∧ ws[j]? = some u := ⟨_, _, List.getElem?_eq_getElem hj, List.getElem?_eq_getElem (by omega)⟩
        obtain ⟨v', hv', iv⟩ := p_at2 iy hu
        rw [hv] at hv'
        cases hv'
        obtain ⟨b, rfl, hb⟩ := iv.same (same_trans sH2 s3)
        obtain ⟨d, kvs, rfl, hd, ky⟩ := dk.same s3
        have e : ys.getD j .non = .ref b := by rw [List.getD_eq_getElem?_getD, hv]; rfl
        have g : DGet H3 d (ys.getD j .non) (valV kvs (kk u)) := by
          rw [e]
          exact DGet.t hd (by rw [kk_v]; exact hb)
        refine ⟨_, rfl, _, rfl, d, _, rfl, g, _, rfl, ?_⟩
        rw [ky.mem u]
        have z := hR H3 (same_refl _)
        rw [hu] at z
        by_cases c : u ∈ us
        · simpa [c] using z
        · simpa [c] using z
      · obtain ⟨u', hu, e2⟩ := Option.bind_eq_some_iff.mp e
        obtain ⟨v, hv, iv⟩ := p_at2 iy hu
        have eu : u' = u := by
          by_cases c : u' ∈ us
          · simpa [c] using e2
          · simp [c] at e2
        subst eu
        refine ⟨_, rfl, hR _ H3 (same_refl _) ?_⟩
        have e3 : ys.getD j .non = v := by rw [List.getD_eq_getElem?_getD, hv]; rfl
        rw [e3]
        exact iv.same (same_trans sH2 s3)
      · rw [ly, filt_fm] at pr2
        refine ⟨.ref D2, _, rfl, rfl, ⟨D2, acc2, rfl, hl2, pr2⟩, fun z => q2 (fun u hu hu2 => ?_) _ (same_trans sH2 s3), fun v u hu iv => ?_⟩
        · have m : u ∈ ws.filter fun u => decide (u ∈ us) := List.mem_filter.mpr ⟨hu, decide_eq_true hu2⟩
          rw [z] at m
          exact nomatch m
        · obtain ⟨m1, m2⟩ := List.mem_filter.mp hu
          exact q1 v u _ (same_trans sH2 s3) (of_decide_eq_true m2) m1 iv

abbrev s_shared : Stmt := topS 32
theorem sc_shared : FnScope ["one", "other", "k"] ["one", "other", "k"] (defScope s_shared) := ⟨rfl, rfl, rfl, by decide +kernel, rfl, by decide +kernel, by decide +kernel⟩
/-- a window of k - 1 that both have -/
def Both (k : Nat) (a b : List Int) : Prop := ∃ u, u ∈ wins a (k - 1) ∧ u ∈ wins b (k - 1)
def spShared (C : Addr) : Sp := fun vs H Q _ => ∃ (x y : V) (k n m : Nat) (a b : List Int), vs = [x, y, .int k] ∧ RowAt C H x n a ∧ RowAt C H y m b ∧ a.length ≤ 1000 ∧ b.length ≤ 1000 ∧ 1 ≤ k ∧ k ≤ 30 ∧ (Both k a b → ∀ v H', Same H H' → v ≠ .non → Q v H') ∧ (¬ Both k a b → ∀ H', Same H H' → Q .non H')
theorem ok_shared {f : Addr} {fd : FuncData} (F : FunS K "shared" "shared" s_shared [] f fd) (c_heads : CalF P w K mg base 4 "heads" (spHeads C)) (c_least_of_both : CalF P w K mg base 1 "least_of_both" spLeast) : FnOk P w K mg base CX0 5 f fd ["one", "other", "k"] (spShared C) := by
  refine body0 F sc_shared (fun vs H Q E h => ?_) (fun cdv A outer s H vs Q E hr h => ?_)
  · obtain ⟨x, y, k, n, m, a, b, rfl, _⟩ := h
    rfl
  · obtain ⟨x, y, k, n, m, a, b, rfl, ra, rb, la, lb, h1, hk, q1, q2⟩ := h
    refine ⟨_, (pss_one (ps_ret (pe_cal c_least_of_both hr (by decide) (by rfl) (pa_cons (pe_cal c_heads hr (by decide) (by rfl) (pa_cons (pv 0) (pa_cons (pv 2) pa_nil))) (pa_cons (pe_cal c_heads hr (by decide) (by rfl) (pa_cons (pv 1) (pa_cons (pv 2) pa_nil))) pa_nil))))), ?_⟩
    refine ⟨_, rfl, _, rfl, x, k, n, a, rfl, ra, la, h1, hk, fun v1 H1 s1 w1 => ⟨_, rfl, _, rfl, y, k, m, b, rfl, rb.same s1, lb, h1, hk, fun v2 H2 s2 w2 => ?_⟩⟩
    have sH := same_trans s1 s2
    refine ⟨v1, v2, _, _, rfl, w1.same s2, w2, by rw [wins_length]; exact la, by rw [wins_length]; exact lb, fun v u H3 s3 m1 m2 i3 => q1 ⟨u, m1, m2⟩ v H3 (same_trans sH s3) ?_, fun no H3 s3 => q2 (fun ⟨u, m1, m2⟩ => no u m2 m1) H3 (same_trans sH s3)⟩
    obtain ⟨p, rfl, _⟩ := i3
    exact nofun

abbrev s_begun_at : Stmt := topS 33
theorem sc_begun_at : FnScope ["row", "place"] ["row", "place"] (defScope s_begun_at) := ⟨rfl, rfl, rfl, by decide +kernel, rfl, by decide +kernel, by decide +kernel⟩
def spBegun (C : Addr) : Sp := fun vs H Q _ => ∃ (x : V) (p n : Nat) (ts : List Int), vs = [x, .int p] ∧ RowAt C H x n ts ∧ p ≤ ts.length ∧ ts.length ≤ 1000 ∧ ∀ v H', Same H H' → IT H' v (rot ts p) → Q v H'
theorem ok_begun_at {f : Addr} {fd : FuncData} (T : ClsOk K C) (F : FunS K "begun_at" "begun_at" s_begun_at [] f fd) : FnOk P w K mg base CX0 1 f fd ["row", "place"] (spBegun C) := by
  refine body0 F sc_begun_at (fun vs H Q E h => ?_) (fun cdv A outer s H vs Q E hr h => ?_)
  · obtain ⟨x, p, n, ts, rfl, _⟩ := h
    rfl
  · obtain ⟨x, p, n, ts, rfl, row, hp, hn, q⟩ := h
    refine ⟨_, (pss_one (ps_ret (pe_op op_catIT (pe_slice sl_IT (pe_rowT T (pv 0)) (po_some (pv 1)) po_none) (pe_slice sl_IT (pe_rowT T (pv 0)) po_none (po_some (pv 1)))))), ?_⟩
    have e1 : (ts.drop p).take (ts.length - p) = ts.drop p := List.take_of_length_le (by rw [List.length_drop]; omega)
    have e2 : (ts.drop 0).take (p - 0) = ts.take p := by rw [List.drop_zero, Nat.sub_zero]
    refine ⟨_, rfl, n, ts, row, fun t it => ⟨_, rfl, _, rfl, ts, p, ts.length, it, sIx_some _ _ _ hp, rfl, fun v H1 s1 h1 => ⟨_, rfl, n, ts, row.same s1, fun t2 it2 => ⟨_, rfl, _, rfl, ts, 0, p, it2, rfl, sIx_some _ _ _ hp, fun v2 H2 s2 h2 => ?_⟩⟩⟩⟩
    rw [e1] at h1
    rw [e2] at h2
    exact ⟨_, _, h1.same s2, h2, by rw [List.length_drop, List.length_take]; omega, fun v3 H3 s3 h3 => q _ _ (same_trans s1 (same_trans s2 s3)) h3⟩
end
end WR

-- part: WRW9
set_option Elab.async false
set_option linter.all false
set_option maxRecDepth 100000
set_option maxHeartbeats 1000000
/-! joining.py: joined, parted -/
namespace WR
open PySem PySem.Spec PyProof.Rows L2
theorem idx_wins {ts u : List Int} {k : Nat} (h : u ∈ wins ts k) : (wins ts k).idxOf u < ts.length ∧ win ts k ((wins ts k).idxOf u) = u := by
  have l := List.idxOf_lt_length_of_mem h
  have l2 : (wins ts k).idxOf u < ts.length := by rw [wins_length] at l; exact l
  refine ⟨l2, ?_⟩
  have e := wins_get (k := k) l2
  have g : (wins ts k)[(wins ts k).idxOf u]? = some u := by rw [List.getElem?_eq_getElem l, List.getElem_idxOf l]
  rw [g] at e
  exact (Option.some.inj e).symm
section
variable {P : Program} {w : World} {K : PySem.W.Frag} {mg : Str → Option Value} {base : Heap} {C : Addr}

abbrev s_joined : Stmt := topS 34
theorem sc_joined : FnScope ["one", "other", "k", "mine", "yours", "window"] ["one", "other", "k"] (defScope s_joined) := ⟨rfl, rfl, rfl, by decide +kernel, rfl, by decide +kernel, by decide +kernel⟩
def spJoined (C : Addr) : Sp := fun vs H Q _ => ∃ (x y : V) (k n m : Nat) (a b : List Int), vs = [x, y, .int k] ∧ RowAt C H x n a ∧ RowAt C H y m b ∧ RowOk n a ∧ (∀ z ∈ b, 0 ≤ z ∧ z < (n : Int)) ∧ a.length + b.length ≤ 1000 ∧ 1 ≤ k ∧ k ≤ 30 ∧ Both k a b ∧
  ∀ v i j H', i < a.length → j < b.length → win a (k - 1) i = win b (k - 1) j → Same H H' → RowAt C H' v n (rot a i ++ rot b j) → Q v H'
theorem ok_joined {f : Addr} {fd : FuncData} (T : ClsOk K C) (F : FunS K "joined" "joined" s_joined [] f fd) (c_heads : CalF P w K mg base 4 "heads" (spHeads C)) (c_least_of_both : CalF P w K mg base 1 "least_of_both" spLeast) (c_begun_at : CalF P w K mg base 1 "begun_at" (spBegun C))
    (m_Round : MakF P w K mg base 4 "Round" C (spInit K)) : FnOk P w K mg base CX0 6 f fd ["one", "other", "k"] (spJoined C) := by
  refine body0 F sc_joined (fun vs H Q E h => ?_) (fun cdv A outer s H vs Q E hr h => ?_)
  · obtain ⟨x, y, k, n, m, a, b, rfl, _⟩ := h
    rfl
  · obtain ⟨x, y, k, n, m, a, b, rfl, ra, rb, ok, bdb, len, h1, hk, both, q⟩ := h
    refine ⟨_, (pss_cons (ps_par (i := 3) (j := 4) (by rfl) sc_joined.nd rfl rfl (by decide) rfl rfl (pa_cons (pe_cal c_heads hr (by decide) (by rfl) (pa_cons (pv 0) (pa_cons (pv 2) pa_nil))) (pa_cons (pe_cal c_heads hr (by decide) (by rfl) (pa_cons (pv 1) (pa_cons (pv 2) pa_nil))) pa_nil)) (by rfl))
      (pss_cons (ps_set (i := 5) sc_joined.nd rfl (Or.inl rfl) (pe_cal c_least_of_both hr (by decide) (by rfl) (pa_cons (pv 3) (pa_cons (pv 4) pa_nil))))
      (pss_cons (ps_if (pt_cmpR op_isN (pv 5) pe_non (nomark _))
        (pss_one ps_never)
        pss_nil)
      (pss_one (ps_ret (pe_row m_Round T hr (by decide) (by rfl) (pa_cons (pe_rowN T (pv 0)) (pa_cons (pe_op op_catIT (pe_cal c_begun_at hr (by decide) (by rfl) (pa_cons (pv 0) (pa_cons (pe_tix (mt_tindexW hr.units) (pv 3) (pa_cons (pv 5) pa_nil)) pa_nil)))
        (pe_cal c_begun_at hr (by decide) (by rfl) (pa_cons (pv 1) (pa_cons (pe_tix (mt_tindexW hr.units) (pv 4) (pa_cons (pv 5) pa_nil)) pa_nil)))) pa_nil)))))))), ?_⟩
    refine ⟨_, rfl, _, rfl, x, k, n, a, rfl, ra, by omega, h1, hk, fun v1 H1 s1 w1 => ⟨_, rfl, _, rfl, y, k, m, b, rfl, rb.same s1, by omega, h1, hk, fun v2 H2 s2 w2 => ?_⟩⟩
    refine ⟨v1, v2, rfl, ?_⟩
    have sH := same_trans s1 s2
    refine ⟨_, rfl, _, rfl, v1, v2, _, _, rfl, w1.same s2, w2, by rw [wins_length]; omega, by rw [wins_length]; omega, fun v u H3 s3 m1 m2 i3 => ?_, fun no H3 s3 => ?_⟩
    · have sH3 := same_trans sH s3
      obtain ⟨p, rfl, hp⟩ := id i3
      refine ⟨_, rfl, rfl, _, rfl, ite2 (fun z => nomatch (of_decide_eq_true z)) fun _ => ?_⟩
      obtain ⟨l1, e1⟩ := idx_wins m1
      obtain ⟨l2, e2⟩ := idx_wins m2
      obtain ⟨wa, wvs, ew, hwa, wits⟩ := w1.same (same_trans s2 s3)
      obtain ⟨wb, wvs2, ew2, hwb, wits2⟩ := w2.same s3
      subst ew ew2
      refine ⟨_, rfl, n, a, ra.same sH3, _, rfl, _, rfl, ⟨wa, wvs, rfl, hwa⟩, _, rfl, _, _, u, ⟨wa, wvs, rfl, hwa, wits⟩, rfl, i3, m1, x, (wins a (k - 1)).idxOf u, n, a, rfl, ra.same sH3, by omega, by omega, fun v4 H4 s4 i4 => ?_⟩
      refine ⟨_, rfl, _, rfl, ⟨wb, wvs2, rfl, hwb.same s4⟩, _, rfl, _, _, u, ⟨wb, wvs2, rfl, hwb.same s4, wits2.same s4⟩, rfl, i3.same s4, m2, y, (wins b (k - 1)).idxOf u, m, b, rfl, rb.same (same_trans sH3 s4), by omega, by omega, fun v5 H5 s5 i5 => ?_⟩
      refine ⟨_, _, i4.same s5, i5, by rw [rot_length, rot_length]; omega, fun v6 H6 s6 i6 => ?_⟩
      refine ⟨n, v6, _, rfl, i6, ⟨ok.lo, ok.hi, ?_, by rw [List.length_append, rot_length, rot_length]; exact len, fun z hz => ?_⟩, fun v7 H7 s7 r7 => q v7 _ _ H7 l1 l2 (e1.trans e2.symm) (same_trans sH3 (same_trans s4 (same_trans s5 (same_trans s6 s7)))) r7⟩
      · intro e
        exact rot_ne ok.ne (List.append_eq_nil_iff.mp e).1
      · rcases List.mem_append.mp hz with c | c
        · exact ok.bd z ((rot_perm a _).mem_iff.mp c)
        · exact bdb z ((rot_perm b _).mem_iff.mp c)
    · obtain ⟨u, m1, m2⟩ := both
      exact absurd m1 (no u m2)

abbrev s_parted : Stmt := topS 35
theorem sc_parted : FnScope ["row", "k", "place", "behind", "inner"] ["row", "k", "place", "behind"] (defScope s_parted) := ⟨rfl, rfl, rfl, by decide +kernel, rfl, by decide +kernel, by decide +kernel⟩
def spParted (C : Addr) : Sp := fun vs H Q _ => ∃ (x : V) (k p b n : Nat) (ts : List Int), vs = [x, .int k, .int p, .int b] ∧ RowAt C H x n ts ∧ RowOk n ts ∧ 1 ≤ k ∧ k ≤ 30 ∧ p < b ∧ b < ts.length ∧ win ts (k - 1) p = win ts (k - 1) b ∧
  ∀ r v1 v2 H', Same H H' → H' r = some (.tup [v1, v2]) → RowAt C H' v1 n ((ts.drop p).take (b - p)) → RowAt C H' v2 n (ts.drop b ++ ts.take p) → Q (.ref r) H'
theorem ok_parted {f : Addr} {fd : FuncData} (G : Glb mg) (T : ClsOk K C) (F : FunS K "parted" "parted" s_parted [] f fd) (c_heads : CalF P w K mg base 4 "heads" (spHeads C)) (m_Round : MakF P w K mg base 4 "Round" C (spInit K)) : FnOk P w K mg base CX0 6 f fd ["row", "k", "place", "behind"] (spParted C) := by
  refine body0 F sc_parted (fun vs H Q E h => ?_) (fun cdv A outer s H vs Q E hr h => ?_)
  · obtain ⟨x, k, p, b, n, ts, rfl, _⟩ := h
    rfl
  · obtain ⟨x, k, p, b, n, ts, rfl, row, ok, h1, hk, hpb, hb, eq, q⟩ := h
    refine ⟨_, (pss_cons (ps_if (pt_not (pt_chain3 op_le op_lt op_lt pe_int (pv 2) (pv 3) (pe_callB call_lenIT (by rfl) G.len PySem.boot_len (pa_cons (pe_rowT T (pv 0)) pa_nil))))
        (pss_one ps_never)
        pss_nil)
      (pss_cons (ps_if (pt_cmpR (op_neIT hr.units) (pe_ix ix_WT (pe_cal c_heads hr (by decide) (by rfl) (pa_cons (pv 0) (pa_cons (pv 1) pa_nil))) (pv 2) (fun _ _ => rfl)) (pe_ix ix_WT (pe_cal c_heads hr (by decide) (by rfl) (pa_cons (pv 0) (pa_cons (pv 1) pa_nil))) (pv 3) (fun _ _ => rfl)) (nomark _))
        (pss_one ps_never)
        pss_nil)
      (pss_cons (ps_set (i := 4) sc_parted.nd rfl (Or.inl rfl) (pe_slice sl_IT (pe_rowT T (pv 0)) (po_some (pv 2)) (po_some (pv 3))))
      (pss_one (ps_ret (pe_tup (pa_cons (pe_row m_Round T hr (by decide) (by rfl) (pa_cons (pe_rowN T (pv 0)) (pa_cons (pv 4) pa_nil))) (pa_cons (pe_row m_Round T hr (by decide) (by rfl) (pa_cons (pe_rowN T (pv 0)) (pa_cons (pe_op op_catIT (pe_slice sl_IT (pe_rowT T (pv 0)) (po_some (pv 3)) po_none) (pe_slice sl_IT (pe_rowT T (pv 0)) po_none (po_some (pv 2)))) pa_nil))) pa_nil)))))))), ?_⟩
    refine ⟨_, rfl, _, _, rfl, rfl, _, rfl, ?_⟩
    rw [decide_eq_true (by omega : (0 : Int) ≤ (p : Int))]
    refine iteT ⟨_, rfl, _, _, rfl, rfl, _, rfl, ?_⟩
    rw [decide_eq_true (by omega : (p : Int) < (b : Int))]
    refine iteT ⟨_, rfl, n, ts, row, fun t it => ⟨_, ts, rfl, it.r, _, _, rfl, rfl, _, rfl, ?_⟩⟩
    rw [decide_eq_true (by omega : (b : Int) < ((ts.length : Nat) : Int))]
    have ln := ok.len
    refine iteF ⟨_, rfl, _, rfl, x, k, n, ts, rfl, row, ln, h1, hk, fun v1 H1 s1 w1 => ⟨_, rfl, _, p, _, w1, rfl, wins_get (by omega), fun u1 i1 => ?_⟩⟩
    refine ⟨_, rfl, _, rfl, x, k, n, ts, rfl, row.same s1, ln, h1, hk, fun v2 H2 s2 w2 => ⟨_, rfl, _, b, _, w2, rfl, wins_get hb, fun u2 i2 => ⟨_, _, (i1.same s2).r, i2.r, _, rfl, ?_⟩⟩⟩
    refine ite2 (fun z => absurd eq (of_decide_eq_true z)) fun _ => ?_
    have sH := same_trans s1 s2
    refine ⟨_, rfl, n, ts, row.same sH, fun t2 it2 => ⟨_, rfl, _, rfl, _, rfl, _, rfl, ts, p, b, it2, sIx_some _ _ _ (by omega), sIx_some _ _ _ (by omega), fun v3 H3 s3 i3 => ?_⟩⟩
    have sH3 := same_trans sH s3
    refine ⟨_, rfl, n, ts, row.same sH3, _, rfl, n, v3, _, rfl, i3, ⟨ok.lo, ok.hi, ?_, by rw [List.length_take, List.length_drop]; omega, fun z hz => ok.bd z (List.mem_of_mem_drop (List.mem_of_mem_take hz))⟩, fun v4 H4 s4 r4 => ?_⟩
    · intro e
      have z := congrArg List.length e
      rw [List.length_take, List.length_drop, List.length_nil] at z
      omega
    have sH4 := same_trans sH3 s4
    have e1 : (ts.drop b).take (ts.length - b) = ts.drop b := List.take_of_length_le (by rw [List.length_drop]; omega)
    have e2 : (ts.drop 0).take (p - 0) = ts.take p := by rw [List.drop_zero, Nat.sub_zero]
    refine ⟨_, rfl, n, ts, row.same sH4, _, rfl, n, ts, row.same sH4, fun t5 it5 => ⟨_, rfl, _, rfl, ts, b, ts.length, it5, sIx_some _ _ _ (by omega), rfl, fun v5 H5 s5 i5 => ⟨_, rfl, n, ts, row.same (same_trans sH4 s5), fun t6 it6 => ⟨_, rfl, _, rfl, ts, 0, p, it6, rfl, sIx_some _ _ _ (by omega), fun v6 H6 s6 i6 => ?_⟩⟩⟩⟩
    rw [e1] at i5
    rw [e2] at i6
    refine ⟨_, _, i5.same s6, i6, by rw [List.length_drop, List.length_take]; omega, fun v7 H7 s7 i7 => ?_⟩
    refine ⟨n, v7, _, rfl, i7, ⟨ok.lo, ok.hi, ?_, by rw [List.length_append, List.length_drop, List.length_take]; omega, fun z hz => ?_⟩, fun v8 H8 s8 r8 => ?_⟩
    · intro e
      have z := congrArg List.length e
      rw [List.length_append, List.length_drop, List.length_nil] at z
      omega
    · rcases List.mem_append.mp hz with c | c
      · exact ok.bd z (List.mem_of_mem_drop c)
      · exact ok.bd z (List.mem_of_mem_take c)
    · have s48 := same_trans s5 (same_trans s6 (same_trans s7 s8))
      refine ⟨by show 2 ≤ sizeLine; decide, fun r hr => q r v4 v8 _ (same_trans sH4 (same_trans s48 (same_new hr))) upd_same (r4.same (same_trans s48 (same_new hr))) (r8.same (same_new hr))⟩
end
end WR

-- part: WRW10
set_option Elab.async false
set_option linter.all false
set_option maxRecDepth 100000
set_option maxHeartbeats 1000000
/-! loops.py; rounds.py: turn_rows, can_be -/
namespace WR
open PySem PySem.Spec PyProof.Rows L2
theorem fm_filter (p : List Int → Bool) (ws : List (List Int)) : (List.range ws.length).filterMap (fun j => (ws[j]?).bind fun u => if p u = true then some u else none) = ws.filter p := by
  have key : ∀ n, n ≤ ws.length → (List.range n).filterMap (fun j => (ws[j]?).bind fun u => if p u = true then some u else none) = (ws.take n).filter p := by
    intro n
    induction n with
    | zero => intro _; rfl
    | succ n ih =>
      intro h
      have e := List.getElem?_eq_getElem (l := ws) (i := n) h
      rw [List.range_succ, List.filterMap_append, ih (by omega), List.take_add_one, e, List.filter_append]
      congr 1
      by_cases c : p ws[n] = true
      · simp [e, c]
      · simp [e, c]
  rw [key _ (Nat.le_refl _), List.take_length]
/-- rows, item by item -/
abbrev Rws (C : Addr) (H : Hp) (n : Nat) : List V → List (List Int) → Prop := Paired fun v c => RowAt C H v n c
theorem Rws.same {C : Addr} {H H' : Hp} {n : Nat} {vs : List V} {L : List (List Int)} (s : Same H H') (h : Rws C H n vs L) : Rws C H' n vs L := Paired.mapP h fun _ _ => RowAt.same s
section
variable {P : Program} {w : World} {K : PySem.W.Frag} {mg : Str → Option Value} {base : Heap} {C : Addr}

abbrev s_loop_of : Stmt := topS 38
theorem sc_loop_of : FnScope ["choice"] ["choice"] (defScope s_loop_of) := ⟨rfl, rfl, rfl, by decide +kernel, rfl, by decide +kernel, by decide +kernel⟩
def spLoopOf : Sp := fun vs H Q _ => ∃ (x : V) (c : List Int), vs = [x] ∧ ITF H x c ∧ c ≠ [] ∧ c.length ≤ 1000 ∧ ∀ v d H', Same H H' → LoopOf c d → IR H' v d → Q v H'
theorem ok_loop_of {f : Addr} {fd : FuncData} (G : Glb mg) (F : FunS K "loop_of" "loop_of" s_loop_of [] f fd) (c_turned : CalF P w K mg base 1 "turned" spTurned) : FnOk P w K mg base CX0 2 f fd ["choice"] spLoopOf := by
  refine body0 F sc_loop_of (fun vs H Q E h => ?_) (fun cdv A outer s H vs Q E hr h => ?_)
  · obtain ⟨x, c, rfl, _⟩ := h
    rfl
  · obtain ⟨x, c, rfl, hx, ne, len, q⟩ := h
    refine ⟨_, (pss_one (ps_ret (pe_cal c_turned hr (by decide) (by rfl) (pa_cons (pv 0) (pa_cons (pe_tix (mt_tindexI hr.units) (pv 0) (pa_cons (pe_callB (cr_minT hr.units rfl) (by rfl) G.min boot_min (pa_cons (pv 0) pa_nil)) pa_nil)) pa_nil))))), ?_⟩
    obtain ⟨a, ea, hf⟩ := id hx
    refine ⟨_, rfl, _, rfl, ⟨a, _, ea, hf⟩, _, rfl, x, c, rfl, hx.r, ne, fun m hm hle => ⟨c, m, hx.r, rfl, hm, x, c, c.idxOf m, rfl, hx.r, List.idxOf_lt_length_of_mem hm, len, fun v H' s' i' => q v _ H' s' ⟨c.idxOf m, List.idxOf_lt_length_of_mem hm, fun y hy => ?_, rfl⟩ i'⟩⟩
    have e : c.getD (c.idxOf m) 0 = m := by
      rw [List.getD_eq_getElem?_getD, List.getElem?_eq_getElem (List.idxOf_lt_length_of_mem hm), List.getElem_idxOf]
      rfl
    rw [e]
    exact hle y hy

abbrev s_loops : Stmt := topS 39
theorem sc_loops : FnScope ["n", "k", "found", "number", "choice"] ["n", "k"] (defScope s_loops) := ⟨rfl, rfl, rfl, by decide +kernel, rfl, by decide +kernel, by decide +kernel⟩
/-- sizes at which a round row is made -/
structure Small (n k : Nat) : Prop where
  k1 : 1 ≤ k
  kn : k ≤ n
  n26 : n ≤ 26
  few : cnt n k ≤ 900
def spLoops : Sp := fun vs H Q _ => ∃ (n k : Nat), vs = [.int n, .int k] ∧ Small n k ∧ ∀ v H', Same H H' → WT H' v (lps n k) → Q v H'
theorem least_is {c : List Int} {m : Int} (ne : c ≠ []) (hm : m ∈ c) (hle : ∀ y ∈ c, m ≤ y) : decide (V.int (c.getD 0 0) = V.int m) = isLoop c := by
  rw [Bool.eq_iff_iff, decide_eq_true_eq, loop_iff]
  have h0 : c.getD 0 0 ∈ c := by
    cases c with
    | nil => exact absurd rfl ne
    | cons a c => exact List.mem_cons_self
  constructor
  · intro e y hy
    injection e with e
    rw [e]
    exact hle y hy
  · intro h
    have h1 := h m hm
    have h2 := hle _ h0
    rw [show c.getD 0 0 = m by omega]
theorem ok_loops {f : Addr} {fd : FuncData} {tL : Tok} (G : Glb mg) (gL : mg "MOST_LOOPS" = some (.int 900 tL)) (F : FunS K "loops" "loops" s_loops [] f fd) (c_count : CalF P w K mg base 1 "count" spCount) (c_choice_at : CalF P w K mg base 2 "choice_at" spChoiceAt) :
    FnOk P w K mg base CX0 3 f fd ["n", "k"] spLoops := by
  refine body0 F sc_loops (fun vs H Q E h => ?_) (fun cdv A outer s H vs Q E hr h => ?_)
  · obtain ⟨n, k, rfl, _⟩ := h
    rfl
  · obtain ⟨n, k, rfl, ⟨k1, kn, n26, few⟩, q⟩ := h
    refine ⟨_, (pss_cons (ps_if (pt_cmpR op_gt (pe_op op_fdivN (pe_cal c_count hr (by decide) (by rfl) (pa_cons (pv 0) (pa_cons (pv 1) pa_nil))) (pv 1)) (pe_glob (v := .int 900) (by rfl) gL ⟨_, rfl⟩) (nomark _))
        (pss_one ps_never)
        pss_nil)
      (pss_cons (ps_setLc (i := 2) (own := [("number", 3)]) (g := gName 3) (tt := tYes) rfl sc_loops.nd rfl rfl (sw_true rfl rfl rfl (by decide +kernel)) (pi_range1 (by rfl) G.range (pa_cons (pe_cal c_count hr (by decide) (by rfl) (pa_cons (pv 0) (pa_cons (pv 1) pa_nil))) pa_nil)) (blkOk_by (by kernel_rfl))
        (fun _ _ _ _ _ => pg_name (i := 3) sc_loops.nd rfl (Or.inl rfl)) (fun _ _ _ _ _ => pts_nil) (fun _ _ _ _ _ => (pe_cal c_choice_at hr (by decide) (by rfl) (pa_cons (pv 0) (pa_cons (pv 1) (pa_cons (pv 3) pa_nil))))))
      (pss_one (ps_ret (pe_tupF (by rfl) G.tuple (pe_lc (own := [("choice", 4)]) (g := gName 4) rfl sc_loops.nd (pi_list (pv 2)) (blkOk_by (by kernel_rfl)) (fun _ _ _ _ _ => pg_name (i := 4) sc_loops.nd rfl (Or.inl rfl))
        (fun _ _ _ _ _ => pts_one (pt_cmpR op_eq (pe_ix ix_IT (pv 4) pe_int (fun _ _ => rfl)) (pe_callB (cr_minT hr.units rfl) (by rfl) G.min boot_min (pa_cons (pv 4) pa_nil)) (nomark _))) (fun _ _ _ _ _ => (pv 4)))))))), ?_⟩
    refine ⟨_, rfl, _, rfl, n, k, rfl, kn, n26, _, rfl, _, _, rfl, rfl, ⟨by omega, by omega⟩, _, _, rfl, rfl, _, rfl, ite2 (fun z => ?_) fun _ => ?_⟩
    · have z' := of_decide_eq_true z
      rw [Int.fdiv_eq_ediv_of_nonneg _ (by omega), ← Int.natCast_ediv] at z'
      have le := Nat.div_le_self (cnt n k) k
      omega
    refine ⟨_, rfl, _, rfl, n, k, rfl, kn, n26, _, rfl, by omega, by omega, fun D hD => lc_map (ys := allCh n k) hD (src_rng 0 (cnt n k) H) (allCh_length n k) IT (fun _ _ _ _ s h => IT.n s h) (by omega) (fun _ => rfl) (fun j y H1 hj s1 R hR => ?_) fun acc H1 s1 h1 p => ?_⟩
    · have jl : j < cnt n k := by
        have z := (List.getElem?_eq_some_iff.mp hj).1
        rw [allCh_length] at z
        exact z
      have ey : y = chAt (upto n) k j := by
        unfold allCh at hj
        rw [List.getElem?_map, List.getElem?_range jl] at hj
        exact (Option.some.inj hj).symm
      refine ⟨_, rfl, _, rfl, _, rfl, n, k, j, ?_, kn, n26, jl, by omega, fun v H2 s2 i2 => hR v H2 s2 (by rw [ey]; exact i2)⟩
      show [V.int n, V.int k, V.int (0 + (j : Int))] = _
      rw [Int.zero_add]
    · have la : acc.length = (allCh n k).length := p_len p
      have lb : (allCh n k).length ≤ 900 := by rw [allCh_length]; exact few
      have all : ∀ {j : Nat} {c : List Int}, (allCh n k)[j]? = some c → IsCh n k c := fun e => (mem_allCh kn).mp (List.mem_of_getElem? e)
      refine ⟨_, rfl, D, rfl, ⟨_, .inl (.inl h1)⟩, fun D2 hD2 => lc_same (β := List Int) hD2 (src_lst h1) (fun j => ((allCh n k)[j]?).bind fun u => if isLoop u = true then some u else none) IT (fun _ _ _ _ s h => IT.n s h) (by omega) (fun _ => rfl) (fun j H3 hj s3 R hR => ?_) (fun j u H3 hj e s3 R hR => ?_) fun acc2 H3 s3 hl2 pr2 => ?_⟩
      · obtain ⟨v, c, hv, hc⟩ : ∃ v c, acc[j]? = some v ∧ (allCh n k)[j]? = some c := ⟨_, _, List.getElem?_eq_getElem hj, List.getElem?_eq_getElem (by omega)⟩
        obtain ⟨v', hv', iv⟩ := p_at2 p hc
        rw [hv] at hv'
        cases hv'
        have e : acc.getD j .non = v := by rw [List.getD_eq_getElem?_getD, hv]; rfl
        have ic := all hc
        have c0 : 0 < c.length := by rw [ic.len]; omega
        have nc : c ≠ [] := List.length_pos_iff.mp c0
        have iv3 : IT H3 (acc.getD j .non) c := by rw [e]; exact iv.same s3
        refine ⟨_, rfl, c, 0, iv3.r, rfl, c0, _, rfl, _, c, rfl, iv3.r, nc, fun m hm hle => ⟨rfl, _, rfl, ?_⟩⟩
        have z := hR H3 (same_refl _)
        rw [hc] at z
        have e0 : c[0] = c.getD 0 0 := by rw [List.getD_eq_getElem?_getD, List.getElem?_eq_getElem c0]; rfl
        rw [e0, least_is nc hm hle]
        cases il : isLoop c with
        | true => simpa [il] using z
        | false => simpa [il] using z
      · obtain ⟨u', hu, e2⟩ := Option.bind_eq_some_iff.mp e
        obtain ⟨v, hv, iv⟩ := p_at2 p hu
        have eu : u' = u := by
          cases il : isLoop u' with
          | true => simpa [il] using e2
          | false => simp [il] at e2
        subst eu
        refine ⟨_, rfl, hR _ H3 (same_refl _) ?_⟩
        have e3 : acc.getD j .non = v := by rw [List.getD_eq_getElem?_getD, hv]; rfl
        rw [e3]
        exact iv.same s3
      · rw [la, fm_filter] at pr2
        exact ⟨D2, acc2, rfl, hl2, fun r H4 s4 f => q _ _ (same_trans s1 (same_trans s3 s4)) ⟨r, acc2, rfl, f, Its.same s4 pr2⟩⟩

/-! ### rounds.py -/
abbrev s_turn_rows : Stmt := topS 42
theorem sc_turn_rows : FnScope ["n", "k", "loop"] ["n", "k"] (defScope s_turn_rows) := ⟨rfl, rfl, rfl, by decide +kernel, rfl, by decide +kernel, by decide +kernel⟩
def spTurnRows (C : Addr) : Sp := fun vs H Q _ => ∃ (n k : Nat), vs = [.int n, .int k] ∧ Small n k ∧ ∀ p vs H', Same H H' → H' p = some (.tup vs) → Rws C H' n vs (lps n k) → Q (.ref p) H'
theorem ok_turn_rows {f : Addr} {fd : FuncData} (G : Glb mg) (T : ClsOk K C) (F : FunS K "turn_rows" "turn_rows" s_turn_rows [] f fd) (c_loops : CalF P w K mg base 3 "loops" spLoops) (m_Round : MakF P w K mg base 4 "Round" C (spInit K)) : FnOk P w K mg base CX0 6 f fd ["n", "k"] (spTurnRows C) := by
  refine body0 F sc_turn_rows (fun vs H Q E h => ?_) (fun cdv A outer s H vs Q E hr h => ?_)
  · obtain ⟨n, k, rfl, _⟩ := h
    rfl
  · obtain ⟨n, k, rfl, sm, q⟩ := h
    refine ⟨_, (pss_one (ps_ret (pe_tupleOf (by rfl) G.tuple (pe_lc (own := [("loop", 2)]) (g := gName 2) (tt := tYes) rfl sc_turn_rows.nd (pi_tup (pe_cal c_loops hr (by decide) (by rfl) (pa_cons (pv 0) (pa_cons (pv 1) pa_nil)))) (blkOk_by (by kernel_rfl)) (fun _ _ _ _ _ => pg_name (i := 2) sc_turn_rows.nd rfl (Or.inl rfl)) (fun _ _ _ _ _ => pts_nil)
      (fun _ _ _ _ _ => (pe_row m_Round T hr (by decide) (by rfl) (pa_cons (pv 0) (pa_cons (pv 2) pa_nil)))))))), ?_⟩
    refine ⟨_, rfl, _, rfl, n, k, rfl, sm, fun v H1 s1 ⟨wa, wvs, ew, hw, its⟩ => ?_⟩
    subst ew
    have ll : wvs.length = (lps n k).length := its.length
    have lf : (lps n k).length ≤ 900 := by
      have a := List.length_filter_le isLoop (allCh n k)
      rw [allCh_length] at a
      have := sm.few
      exact Nat.le_trans a this
    refine ⟨wa, rfl, ⟨_, .inl hw.rd⟩, fun D hD => lc_map (ys := lps n k) hD (src_tupF hw) ll.symm (fun H v c => RowAt C H v n c) (fun _ _ _ _ s h => h.n s) (by omega) (fun _ => rfl) (fun j c H2 hj s2 R hR => ?_) fun acc H2 s2 h2 p => .inl ⟨D, acc, rfl, .inl (.inl h2), fun r hr => q r acc _ (same_trans s1 (same_trans s2 (same_new hr))) upd_same (Rws.same (same_new hr) p)⟩⟩
    obtain ⟨v, hv, iv⟩ := p_at2 its hj
    have e : wvs.getD j .non = v := by rw [List.getD_eq_getElem?_getD, hv]; rfl
    obtain ⟨ic, _⟩ := (mem_lps sm.kn).mp (List.mem_of_getElem? hj)
    refine ⟨_, rfl, _, rfl, n, wvs.getD j .non, c, rfl, by rw [e]; exact iv.same s2, ⟨by have := sm.k1; have := sm.kn; omega, sm.n26, fun z => ?_, by rw [ic.len]; have := sm.kn; have := sm.n26; omega, ic.bd⟩, fun v2 H3 s3 r3 => hR v2 H3 s3 r3⟩
    have := ic.len
    rw [z, List.length_nil] at this
    have := sm.k1
    omega

abbrev s_can_be : Stmt := topS 43
theorem sc_can_be : FnScope ["n", "k"] ["n", "k"] (defScope s_can_be) := ⟨rfl, rfl, rfl, by decide +kernel, rfl, by decide +kernel, by decide +kernel⟩
def spCanBe : Sp := fun vs H Q _ => ∃ (n k : Nat), vs = [.int n, .int k] ∧ Q (.bl (decide (k < n ∨ n ≤ 2))) H
theorem ok_can_be {f : Addr} {fd : FuncData} (F : FunS K "can_be" "can_be" s_can_be [] f fd) : FnOk P w K mg base CX0 1 f fd ["n", "k"] spCanBe := by
  refine body0 F sc_can_be (fun vs H Q E h => ?_) (fun cdv A outer s H vs Q E hr h => ?_)
  · obtain ⟨n, k, rfl, _⟩ := h
    rfl
  · obtain ⟨n, k, rfl, q⟩ := h
    refine ⟨_, (pss_one (ps_ret (pe_or (pe_cmpR op_lt (pv 1) (pv 0) (nomark _)) (pe_one (pe_cmpR op_le (pv 0) pe_int (nomark _)))))), ?_⟩
    refine ⟨_, rfl, _, rfl, _, _, rfl, rfl, _, rfl, ite2 (fun z => ?_) fun z => ⟨_, rfl, _, _, rfl, rfl, ?_⟩⟩
    · have z' := of_decide_eq_true z
      rw [decide_eq_true (.inl (by omega))] at q
      exact q
    · have e : decide (k < n ∨ n ≤ 2) = decide ((n : Int) ≤ 2) := by
        refine decide_eq_decide.mpr ⟨fun h => ?_, fun h => .inr (by omega)⟩
        rcases h with h | h
        · exact absurd (decide_eq_true (show (k : Int) < (n : Int) by omega)) z
        · omega
      rw [e] at q
      exact q
end
end WR

-- part: WRW11
set_option Elab.async false
set_option linter.all false
set_option maxRecDepth 100000
set_option maxHeartbeats 1000000
/-! rounds.py: meeting, round_row, plain_row -/
namespace WR
open PySem PySem.Spec PyProof.Rows L2
theorem any_dec (us ws : List (List Int)) : (ws.map fun u => decide (u ∈ us)).any id = true ↔ ∃ u, u ∈ us ∧ u ∈ ws := by
  rw [List.any_map, List.any_eq_true]
  constructor
  · rintro ⟨u, h1, h2⟩
    exact ⟨u, of_decide_eq_true h2, h1⟩
  · rintro ⟨u, h1, h2⟩
    exact ⟨u, h2, decide_eq_true h1⟩
section
variable {P : Program} {w : World} {K : PySem.W.Frag} {mg : Str → Option Value} {base : Heap} {C : Addr}

abbrev s_meeting : Stmt := topS 44
theorem sc_meeting : FnScope ["row", "others", "k", "mine", "number", "other", "window"] ["row", "others", "k"] (defScope s_meeting) := ⟨rfl, rfl, rfl, by decide +kernel, rfl, by decide +kernel, by decide +kernel⟩
def spMeeting (C : Addr) : Sp := fun vs H Q _ => ∃ (x : V) (l : Addr) (k n : Nat) (R : List Int) (os : List V) (L : List (List Int)), vs = [x, .ref l, .int k] ∧ RowAt C H x n R ∧ H l = some (.lst os) ∧ Rws C H n os L ∧ R.length ≤ 1000 ∧ (∀ c ∈ L, c.length ≤ 1000) ∧ L.length ≤ 1000 ∧ 1 ≤ k ∧ k ≤ 30 ∧
  (∃ c ∈ L, Both k R c) ∧ ∀ (i : Nat) c H', Same H H' → L[i]? = some c → Both k R c → Q (.int i) H'
theorem ok_meeting {f : Addr} {fd : FuncData} (G : Glb mg) (F : FunS K "meeting" "meeting" s_meeting [] f fd) (c_heads : CalF P w K mg base 4 "heads" (spHeads C)) : FnOk P w K mg base CX0 5 f fd ["row", "others", "k"] (spMeeting C) := by
  refine body0 F sc_meeting (fun vs H Q E h => ?_) (fun cdv A outer s H vs Q E hr h => ?_)
  · obtain ⟨x, l, k, n, R, os, L, rfl, _⟩ := h
    rfl
  · obtain ⟨x, l, k, n, R, os, L, rfl, row, hl, rws, lR, lc, lL, k1, k30, ex, q⟩ := h
    refine ⟨_, (pss_cons (ps_set (i := 3) sc_meeting.nd rfl (Or.inr rfl) (pe_callTy (cr_dictW hr.units rfl) (by rfl) G.dict PyProof.Rows.boot_dict (pa_cons (pe_lc (own := [("window", 6)]) (g := gName 6) (tt := tYes) rfl sc_meeting.nd (pi_tup (pe_cal c_heads hr (by decide) (by rfl) (pa_cons (pv 0) (pa_cons (pv 2) pa_nil)))) (blkOk_by (by kernel_rfl))
        (fun _ _ _ _ _ => pg_name (i := 6) sc_meeting.nd rfl (Or.inl rfl)) (fun _ _ _ _ _ => pts_nil) (fun _ _ _ _ _ => (pe_tup (pa_cons (pv 6) (pa_cons pe_bl pa_nil))))) pa_nil)))
      (pss_cons (ps_for PassesOwn.never rfl (pi_enum (by rfl) G.enumerate (pa_cons (pv 1) pa_nil)) (pg_tup rfl (pgs_cons (pg_name (i := 4) sc_meeting.nd rfl (Or.inl rfl)) (pgs_cons (pg_name (i := 5) sc_meeting.nd rfl (Or.inl rfl)) pgs_nil)))
        (pss_one (ps_if (pt_val (pe_callB (cr_any rfl) (by rfl) G.any boot_any (pa_cons (pe_lc (own := [("window", 6)]) (g := gName 6) (tt := tYes) rfl sc_meeting.nd (pi_tup (pe_cal c_heads hr (by decide) (by rfl) (pa_cons (pv 5) (pa_cons (pv 2) pa_nil)))) (blkOk_by (by kernel_rfl))
          (fun _ _ _ _ _ => pg_name (i := 6) sc_meeting.nd rfl (Or.inl rfl)) (fun _ _ _ _ _ => pts_nil) (fun _ _ _ _ _ => (pe_cmp (pc_din (hu_of hr) (pv 6) (pv 3)) (by with_unfolding_all rfl)))) pa_nil)))
          (pss_one (ps_ret (pv 4)))
          pss_nil)))
      (pss_one (ps_ret pe_non)))), ?_⟩
    refine ⟨_, rfl, _, rfl, x, k, n, R, rfl, row, lR, k1, k30, fun v H1 s1 ⟨xa, xs, ev, hx, ix⟩ => ?_⟩
    subst ev
    have lx : xs.length = (wins R (k - 1)).length := ix.length
    have lw : (wins R (k - 1)).length = R.length := wins_length ..
    refine ⟨xa, rfl, ⟨_, .inl hx.rd⟩, fun D hD => lc_map (ys := wins R (k - 1)) hD (src_tupF hx) lx.symm (fun H v u => ∃ p b, v = .ref p ∧ H p = some (.tup [.ref b, .bl true]) ∧ H b = some (.tup (u.map V.int))) (fun H H' v u s ⟨p, b, e, a1, a2⟩ => ⟨p, b, e, s _ _ nofun a1, s _ _ nofun a2⟩) (by omega) (fun _ => rfl) (fun j u H2 hj s2 Rr hR => ?_) fun acc H2 s2 hl2 pr => ?_⟩
    · obtain ⟨v, hv, iv⟩ := p_at2 ix hj
      obtain ⟨b, rfl, hb⟩ := iv.same s2
      refine ⟨_, rfl, (by show 2 ≤ sizeLine; decide), fun p hp => hR _ _ (same_new hp) ⟨p, b, rfl, ?_, same_new hp _ _ hb⟩⟩
      have e : xs.getD j .non = .ref b := by rw [List.getD_eq_getElem?_getD, hv]; rfl
      rw [e]
      exact upd_same
    refine ⟨D, acc, _, rfl, hl2, pr, fun y H3 s3 dk => ?_⟩
    have sH := same_trans s1 (same_trans s2 s3)
    refine ⟨_, rfl, l, os, rfl, .inl (.inl (sH _ _ hl)), for_enL (xs := os) (fun i σ H' => ∃ x4 x5, σ = [some x, some (.ref l), some (.int k), some y, x4, x5, none] ∧ Same H3 H' ∧ ∀ j c, j < i → L[j]? = some c → ¬ Both k R c) ⟨none, none, rfl, same_refl _, fun j c hj => absurd hj (Nat.not_lt_zero _)⟩
      (fun i σ H' ⟨_, _, _, s, _⟩ => s _ _ (sH _ _ hl)) (fun i z σ H' Ta hz ⟨x4, x5, eσ, s4, no⟩ hT => ?_) fun σ H' ⟨x4, x5, eσ, s4, no⟩ => ?_⟩
    · subst eσ
      obtain ⟨c, hc, rc⟩ := p_at1 rws hz
      have s5 := same_trans s4 (same_new (o := .tup [.int (i : Nat), z]) hT)
      refine ⟨Ta, _, rfl, .inl (.inl upd_same), rfl, _, _, rfl, _, _, rfl, rfl, ?_⟩
      generalize upd H' Ta (.tup [.int (i : Nat), z]) = H5 at s5 ⊢
      have cm : c ∈ L := List.mem_of_getElem? hc
      refine ⟨_, rfl, _, rfl, z, k, n, c, rfl, rc.same (same_trans sH s5), lc c cm, k1, k30, fun v2 H6 s6 ⟨ya, ys, ey, hy, iy⟩ => ?_⟩
      subst ey
      have ly : ys.length = (wins c (k - 1)).length := iy.length
      have lcw : (wins c (k - 1)).length = c.length := wins_length ..
      have lcc := lc c cm
      refine ⟨ya, rfl, ⟨_, .inl hy.rd⟩, fun D2 hD2 => lc_map (ys := (wins c (k - 1)).map fun u => decide (u ∈ wins R (k - 1))) hD2 (src_tupF hy) (by rw [List.length_map, ly]) (fun _ v b => v = V.bl b) (fun _ _ _ _ _ h => h) (by omega) (fun _ => rfl) (fun j b H7 hj s7 Rr hR => ?_) fun acc2 H7 s7 hl7 p7 => ?_⟩
      · rw [List.getElem?_map] at hj
        obtain ⟨u, hu, eb⟩ := Option.map_eq_some_iff.mp hj
        obtain ⟨v, hv, iv⟩ := p_at2 iy hu
        obtain ⟨ub, rfl, hub⟩ := iv.same s7
        obtain ⟨d, kvs, rfl, hd, ky⟩ := dk.same (same_trans s5 (same_trans s6 s7))
        have e : ys.getD j .non = .ref ub := by rw [List.getD_eq_getElem?_getD, hv]; rfl
        have g : DGet H7 d (ys.getD j .non) (valV kvs (kk u)) := by
          rw [e]
          exact DGet.t hd (by rw [kk_v]; exact hub)
        refine ⟨_, rfl, _, rfl, d, _, rfl, g, ?_⟩
        rw [ky.mem u, eb]
        exact hR _ H7 (same_refl _) rfl
      · have e7 : acc2 = ((wins c (k - 1)).map fun u => decide (u ∈ wins R (k - 1))).map V.bl := by
          clear hl7
          generalize (wins c (k - 1)).map (fun u => decide (u ∈ wins R (k - 1))) = bs at p7 ⊢
          induction p7 with
          | nil => rfl
          | cons r _ ih => rw [r, ih]; rfl
        subst e7
        refine ⟨D2, _, rfl, .inl (.inl hl7), _, rfl, ite2 (fun t => ?_) fun t => ?_⟩
        · exact ⟨_, rfl, q i c _ (same_trans sH (same_trans s5 (same_trans s6 s7))) hc ((any_dec _ _).mp t)⟩
        · refine ⟨_, _, rfl, same_trans s5 (same_trans s6 s7), fun j c' hj hc' => ?_⟩
          rcases Nat.lt_or_ge j i with lt | ge
          · exact no j c' lt hc'
          · obtain rfl : j = i := by omega
            rw [hc] at hc'
            cases hc'
            exact fun both => t ((any_dec _ _).mpr both)
    · exfalso
      obtain ⟨c, hc, both⟩ := ex
      obtain ⟨j, hj, e⟩ := List.getElem_of_mem hc
      exact no j c (by rw [p_len rws]; exact hj) (by rw [List.getElem?_eq_getElem hj, e]) both
end
end WR

-- part: WRW12
set_option Elab.async false
set_option linter.all false
set_option maxRecDepth 100000
set_option maxHeartbeats 1000000
/-! rounds.py: round_row -/
namespace WR
open PySem PySem.Spec PyProof.Rows L2
theorem rows_erase {C : Addr} {H : Hp} {n : Nat} {vs : List V} {L : List (List Int)} (h : Rws C H n vs L) : ∀ i, Rws C H n (vs.eraseIdx i) (L.eraseIdx i) := by
  induction h with
  | nil => intro i; exact .nil
  | cons r t ih =>
    intro i
    cases i with
    | zero => exact t
    | succ i => exact .cons r (ih i)
theorem inv_len {n k : Nat} {R : List Int} {L : List (List Int)} (I : RowInv n k R L) : R.length + (L.flatMap fun c => wins c k).length = cnt n k := by
  have z := I.all.length_eq
  rw [List.length_append, wins_length, allCh_length] at z
  exact z
theorem flat_le {k : Nat} (h : 1 ≤ k) : ∀ (L : List (List Int)), (∀ l ∈ L, l.length = k) → L.length ≤ (L.flatMap fun c => wins c k).length
  | [], _ => Nat.zero_le _
  | l :: L, hl => by
    have ih := flat_le h L fun c hc => hl c (List.mem_cons_of_mem _ hc)
    rw [List.flatMap_cons, List.length_append, wins_length, hl l List.mem_cons_self, List.length_cons]
    omega
theorem nn_mono {σ : L2.St} {H : Hp} {Q Q' : Bool → Hp → Prop} (m : ∀ b H1, Q b H1 → Q' b H1) (h : tTest (tOp rNeNil (tVar 2) (tLst tNil)) σ H Q) : tTest (tOp rNeNil (tVar 2) (tLst tNil)) σ H Q' := by
  obtain ⟨v, e, hz, h⟩ := h
  refine ⟨v, e, hz, fun p hp => ?_⟩
  obtain ⟨a, b, xs, h1, h2, h3, h4, c, h5, h6⟩ := h p hp
  exact ⟨a, b, xs, h1, h2, h3, h4, c, h5, m _ _ h6⟩
def lenAt (H : Hp) (l : Addr) : Nat := match H l with
  | some (.lst xs) => xs.length
  | _ => 0
theorem lenAt_of {H : Hp} {l : Addr} {xs : List V} (h : H l = some (.lst xs)) : lenAt H l = xs.length := by
  unfold lenAt
  rw [h]
section
variable {P : Program} {w : World} {K : PySem.W.Frag} {mg : Str → Option Value} {base : Heap} {C : Addr}

abbrev s_round_row : Stmt := topS 45
theorem sc_round_row : FnScope ["n", "k", "left", "row"] ["n", "k"] (defScope s_round_row) := ⟨rfl, rfl, rfl, by decide +kernel, rfl, by decide +kernel, by decide +kernel⟩
def spRoundRow (C : Addr) : Sp := fun vs H Q _ => ∃ (n k : Nat), vs = [.int n, .int k] ∧ Small n k ∧ (k < n ∨ n ≤ 2) ∧ ∀ v R H', Same H H' → RowAt C H' v n R → RowOk n R → RoundOk n k R → Q v H'
theorem ok_round_row {f : Addr} {fd : FuncData} {tC : Tok} (G : Glb mg) (gC : mg "MOST_CHOICES" = some (.int 900 tC)) (F : FunS K "round_row" "round_row" s_round_row [] f fd) (c_can_be : CalF P w K mg base 1 "can_be" spCanBe) (c_count : CalF P w K mg base 1 "count" spCount)
    (c_turn_rows : CalF P w K mg base 6 "turn_rows" (spTurnRows C)) (c_joined : CalF P w K mg base 6 "joined" (spJoined C)) (c_meeting : CalF P w K mg base 5 "meeting" (spMeeting C)) : FnOk P w K mg base CX0 7 f fd ["n", "k"] (spRoundRow C) := by
  refine body0 F sc_round_row (fun vs H Q E h => ?_) (fun cdv A outer s H vs Q E hr h => ?_)
  · obtain ⟨n, k, rfl, _⟩ := h
    rfl
  · obtain ⟨n, k, rfl, sm, cb, q⟩ := h
    refine ⟨_, (pss_cons (ps_if (pt_not (pt_val (pe_cal c_can_be hr (by decide) (by rfl) (pa_cons (pv 0) (pa_cons (pv 1) pa_nil)))))
        (pss_one ps_never)
        pss_nil)
      (pss_cons (ps_if (pt_cmpR op_gt (pe_cal c_count hr (by decide) (by rfl) (pa_cons (pv 0) (pa_cons (pv 1) pa_nil))) (pe_glob (v := .int 900) (by rfl) gC ⟨_, rfl⟩) (nomark _))
        (pss_one ps_never)
        pss_nil)
      (pss_cons (ps_set (i := 2) sc_round_row.nd rfl (Or.inl rfl) (pe_callTy call_list_of (by rfl) G.list PyProof.Rows.boot_list (pa_cons (pe_cal c_turn_rows hr (by decide) (by rfl) (pa_cons (pv 0) (pa_cons (pv 1) pa_nil))) pa_nil)))
      (pss_cons (ps_set (i := 3) sc_round_row.nd rfl (Or.inl rfl) (pe_bm PySem.F.plainAttrs_list PySem.F.slot_list_pop PySem.F.type_list_pop mt_popAt (pv 2) (pa_cons pe_int pa_nil)))
      (pss_cons (ps_while PassesOwn.never (pt_cmpR (op_neNil hr.units) (pv 2) (pe_lst pa_nil) (nomark _))
        (pss_one (ps_set (i := 3) sc_round_row.nd rfl (Or.inl rfl) (pe_cal c_joined hr (by decide) (by rfl) (pa_cons (pv 3) (pa_cons (pe_bm PySem.F.plainAttrs_list PySem.F.slot_list_pop PySem.F.type_list_pop mt_popAt (pv 2) (pa_cons (pe_cal c_meeting hr (by decide) (by rfl) (pa_cons (pv 3) (pa_cons (pv 2) (pa_cons (pv 1) pa_nil)))) pa_nil)) (pa_cons (pv 1) pa_nil)))))))
      (pss_one (ps_ret (pv 3)))))))), ?_⟩
    have hk := sm.kn
    have h26 := sm.n26
    have k1 := sm.k1
    have few := sm.few
    refine ⟨_, rfl, _, rfl, n, k, rfl, _, rfl, ?_⟩
    rw [decide_eq_true cb]
    refine iteF ⟨_, rfl, _, rfl, n, k, rfl, hk, h26, _, _, rfl, rfl, _, rfl, ite2 (fun z => ?_) fun _ => ?_⟩
    · have z' := of_decide_eq_true z
      omega
    refine ⟨_, rfl, _, rfl, n, k, rfl, sm, fun p vs H1 s1 h1 rws => ⟨p, vs, rfl, .inr (.inl (.inl h1)), fun l hl => ?_⟩⟩
    have sl := same_trans s1 (same_new (o := .lst vs) hl)
    have rws1 := rws.same (same_new (o := .lst vs) hl)
    have hl0 : H l = none := by
      cases z : H l with
      | none => rfl
      | some o => rw [s1 _ _ z] at hl; exact nomatch hl
    obtain ⟨R0, L0, eL⟩ : ∃ R0 L0, lps n k = R0 :: L0 := by
      cases e : lps n k with
      | nil => exact absurd e (lps_ne k1 hk)
      | cons a b => exact ⟨a, b, rfl⟩
    have inv0 := RowInv.start k1 hk eL
    have none0 : k < n ∨ L0 = [] := by
      rcases Nat.lt_or_ge k n with c | c
      · exact .inl c
      · refine .inr ?_
        obtain ⟨R', e'⟩ := lps_small k1 hk (by omega) (by omega)
        rw [eL] at e'
        injection e'
    rw [eL] at rws1
    have hl1 : upd H1 l (.lst vs) l = some (.lst vs) := upd_same
    generalize upd H1 l (.lst vs) = H2 at sl rws1 hl1 ⊢
    obtain ⟨v0, vt, ev⟩ : ∃ v0 vt, vs = v0 :: vt := by
      cases rws1 with
      | cons r t => exact ⟨_, _, rfl⟩
    subst ev
    have r0 : RowAt C H2 v0 n R0 := by cases rws1 with | cons r t => exact r
    have rt : Rws C H2 n vt L0 := by cases rws1 with | cons r t => exact t
    refine ⟨_, rfl, .inl ⟨rfl, _, .inl (.inl hl1)⟩, l, _, 0, 0, v0, rfl, rfl, hl1, by decide, by decide, seq_at (i := 0) (by rw [List.length_cons]; omega), rfl, ?_⟩
    have nm := SameN.mut (o := .lst ((v0 :: vt).eraseIdx 0)) hl1
    have r0' := r0.n nm
    have rt' : Rws C _ n vt L0 := Paired.mapP rt fun _ _ => RowAt.n nm
    have sl' := same_mut (o := .lst ((v0 :: vt).eraseIdx 0)) sl hl0
    have hl2 : upd H2 l (.lst ((v0 :: vt).eraseIdx 0)) l = some (.lst vt) := upd_same
    generalize upd H2 l (.lst ((v0 :: vt).eraseIdx 0)) = H3 at r0' rt' sl' hl2 ⊢
    refine while_by (fun σ H' => ∃ (R : List Int) (L : List (List Int)) (x : V) (os : List V), σ = [some (.int n), some (.int k), some (.ref l), some x] ∧ Same H H' ∧ H' l = some (.lst os) ∧ Rws C H' n os L ∧ RowAt C H' x n R ∧ RowInv n k R L ∧ (k < n ∨ L = []))
      (fun σ H' => lenAt H' l) ⟨R0, L0, v0, vt, rfl, sl', hl2, rt', r0', inv0, none0⟩ (fun σ H' p => ?_) (fun σ H' Q1 Q2 m h => nn_mono m h)
    obtain ⟨R, L, x, os, rfl, s4, hl4, rw4, row, I, nn⟩ := p
    refine ⟨_, rfl, by decide, fun b hb => ⟨l, b, os, rfl, rfl, same_new hb _ _ hl4, upd_same, _, rfl, ?_⟩⟩
    have s5 := same_trans s4 (same_new (o := .lst []) hb)
    have hl5 := same_new (o := .lst []) hb _ _ hl4
    have rw5 := rw4.same (same_new (o := .lst []) hb)
    have row5 := row.same (same_new (o := .lst []) hb)
    have len5 := lenAt_of hl4
    generalize upd H' b (.lst []) = H5 at s5 hl5 rw5 row5 ⊢
    have iL := inv_len I
    have fl := flat_le k1 L fun c hc => (I.lp c hc).len
    have lo : os.length = L.length := p_len rw5
    have okR : RowOk n R := ⟨by omega, h26, I.ne, by omega, I.bd⟩
    refine ite2 (fun z => ?_) fun z => ?_
    · have ne : os ≠ [] := of_decide_eq_true z
      have nL : L ≠ [] := fun e => ne (List.eq_nil_of_length_eq_zero (by rw [lo, e]; rfl))
      have kn : k < n := by
        rcases nn with c | c
        · exact c
        · exact absurd c nL
      obtain ⟨c0, m0, u, mu1, mu2⟩ := I.meet k1 kn nL
      refine ⟨_, rfl, _, rfl, .inl ⟨rfl, _, .inl (.inl hl5)⟩, _, rfl, _, rfl, _, rfl, x, l, k, n, R, os, L, rfl, row5, hl5, rw5, by omega, fun c hc => by rw [(I.lp c hc).len]; omega, by omega, k1, by omega, ⟨c0, m0, u, mu2, mu1⟩, fun i c H6 s6 hc both => ?_⟩
      obtain ⟨y, hy, ry⟩ := p_at2 rw5 hc
      have hl6 := s6 _ _ hl5
      have il : i < os.length := (List.getElem?_eq_some_iff.mp hy).1
      refine ⟨l, os, i, i, y, rfl, rfl, hl6, by omega, by omega, seq_at il, hy, ?_⟩
      have nm6 := SameN.mut (o := .lst (os.eraseIdx i)) hl6
      have row6 := (row5.same s6).n nm6
      have ry6 := (ry.same s6).n nm6
      have rw6 : Rws C (upd H6 l (.lst (os.eraseIdx i))) n (os.eraseIdx i) (L.eraseIdx i) := rows_erase (Paired.mapP (rw5.same s6) fun _ _ => RowAt.n nm6) i
      have s6' := same_mut (o := .lst (os.eraseIdx i)) (same_trans s5 s6) hl0
      have hl7 : upd H6 l (.lst (os.eraseIdx i)) l = some (.lst (os.eraseIdx i)) := upd_same
      generalize upd H6 l (.lst (os.eraseIdx i)) = H7 at row6 ry6 rw6 s6' hl7 ⊢
      have cm : c ∈ L := List.mem_of_getElem? hc
      have ic := I.lp c cm
      refine ⟨_, rfl, x, y, k, n, n, R, c, rfl, row6, ry6, okR, ic.bd, by rw [ic.len]; omega, k1, by omega, both, fun v p' j H8 hp hj e s8 r8 => ?_⟩
      refine ⟨⟨_, _, v, os.eraseIdx i, rfl, same_trans s6' s8, s8 _ _ hl7, rw6.same s8, r8, I.step k1 hc hp hj e, .inl kn⟩, ?_⟩
      rw [len5, lenAt_of (s8 _ _ hl7), List.length_eraseIdx_of_lt il]
      omega
    · have e : os = [] := Classical.byContradiction fun c => z (decide_eq_true c)
      have eL : L = [] := List.eq_nil_of_length_eq_zero (by rw [← lo, e]; rfl)
      subst eL
      exact ⟨_, rfl, q x R _ s5 row5 okR I.done⟩
end
end WR

-- part: WRW13
set_option Elab.async false
set_option linter.all false
set_option maxRecDepth 100000
set_option maxHeartbeats 1000000
/-! rounds.py: plain_row, way_paper, orders_of -/
namespace WR
open PySem PySem.Spec PyProof.Rows L2
section
variable {P : Program} {w : World} {K : PySem.W.Frag} {mg : Str → Option Value} {base : Heap} {C CP : Addr}

abbrev s_plain_row : Stmt := topS 46
theorem sc_plain_row : FnScope ["n", "k"] ["n", "k"] (defScope s_plain_row) := ⟨rfl, rfl, rfl, by decide +kernel, rfl, by decide +kernel, by decide +kernel⟩
def spPlainRow (CP : Addr) : Sp := fun vs H Q _ => ∃ (n k : Nat), vs = [.int n, .int k] ∧ Small n k ∧ (k < n ∨ n ≤ 2) ∧ ∀ v R H', Same H H' → RowOk n R → RoundOk n k R → RowAt CP H' v n (win R (R.length + k - 1) 0) → Q v H'
theorem ok_plain_row {f : Addr} {fd : FuncData} (T : ClsOk K C) (F : FunS K "plain_row" "plain_row" s_plain_row [] f fd) (c_round_row : CalF P w K mg base 7 "round_row" (spRoundRow C)) (m_opened : MetF P w K mg base 6 C "opened" (spOpened C CP)) : FnOk P w K mg base CX0 8 f fd ["n", "k"] (spPlainRow CP) := by
  refine body0 F sc_plain_row (fun vs H Q E h => ?_) (fun cdv A outer s H vs Q E hr h => ?_)
  · obtain ⟨n, k, rfl, _⟩ := h
    rfl
  · obtain ⟨n, k, rfl, sm, cb, q⟩ := h
    refine ⟨_, (pss_one (ps_ret (pe_met (pe_cal c_round_row hr (by decide) (by rfl) (pa_cons (pv 0) (pa_cons (pv 1) pa_nil))) T.cl m_opened hr (by decide) (pa_cons pe_int (pa_cons (pv 1) pa_nil))))), ?_⟩
    refine ⟨_, rfl, _, rfl, n, k, rfl, sm, cb, fun v R H1 s1 row ok ro => ?_⟩
    obtain ⟨a, dx, t, rfl, ha, it⟩ := id row
    have lR := ro.length
    have := sm.few
    have := sm.k1
    have := sm.kn
    have := sm.n26
    exact ⟨a, dx, _, rfl, ha, rfl, _, rfl, _, 0, k, n, R, rfl, row, ok, ok.pos, by omega, by omega, by omega, fun v2 H2 s2 r2 => q v2 R H2 (same_trans s1 s2) ok ro r2⟩

abbrev s_way_paper : Stmt := topS 47
theorem sc_way_paper : FnScope ["n", "k", "one"] ["n", "k"] (defScope s_way_paper) := ⟨rfl, rfl, rfl, by decide +kernel, rfl, by decide +kernel, by decide +kernel⟩
/-- a paper: a row, or two orders of unlike loops -/
def PapR (H : Hp) (v : V) (R : List Int) : Prop := ∃ p t, v = .ref p ∧ H p = some (.tup [.str "row", t]) ∧ IT H t R
def PapN (H : Hp) (v : V) (n : Nat) : Prop := ∃ p t u, v = .ref p ∧ H p = some (.tup [.str "none", t, u]) ∧ ITF H t (upto n) ∧ ITF H u (swapped n)
def spWayPaper : Sp := fun vs H Q _ => ∃ (n k : Nat), vs = [.int n, .int k] ∧ n ≤ 26 ∧ (((k < n ∨ n ≤ 2) ∧ Small n k ∧ ∀ v R H', Same H H' → RowOk n R → RoundOk n k R → PapR H' v R → Q v H') ∨ (¬ (k < n ∨ n ≤ 2) ∧ ∀ v H', Same H H' → PapN H' v n → Q v H'))
theorem ok_way_paper {f : Addr} {fd : FuncData} (G : Glb mg) (T : ClsOk K C) (F : FunS K "way_paper" "way_paper" s_way_paper [] f fd) (c_can_be : CalF P w K mg base 1 "can_be" spCanBe) (c_round_row : CalF P w K mg base 7 "round_row" (spRoundRow C)) : FnOk P w K mg base CX0 8 f fd ["n", "k"] spWayPaper := by
  refine body0 F sc_way_paper (fun vs H Q E h => ?_) (fun cdv A outer s H vs Q E hr h => ?_)
  · obtain ⟨n, k, rfl, _⟩ := h
    rfl
  · obtain ⟨n, k, rfl, n26, q⟩ := h
    refine ⟨_, (pss_cons (ps_if (pt_val (pe_cal c_can_be hr (by decide) (by rfl) (pa_cons (pv 0) (pa_cons (pv 1) pa_nil))))
        (pss_one (ps_ret (pe_tup (pa_cons pe_str (pa_cons (pe_rowT T (pe_cal c_round_row hr (by decide) (by rfl) (pa_cons (pv 0) (pa_cons (pv 1) pa_nil)))) pa_nil)))))
        pss_nil)
      (pss_cons (ps_set (i := 2) sc_way_paper.nd rfl (Or.inl rfl) (pe_rgF (by rfl) G.tuple (prg_1 (by rfl) G.range (pv 0))))
      (pss_one (ps_ret (pe_tup (pa_cons pe_str (pa_cons (pv 2) (pa_cons (pe_op op_catF (pe_tupD (pa_cons pe_int (pa_cons pe_int pa_nil))) (pe_slice sl_IR (pv 2) (po_some pe_int) po_none)) pa_nil)))))))), ?_⟩
    refine ⟨_, rfl, _, rfl, n, k, rfl, _, rfl, ite2 (fun z => ?_) fun z => ?_⟩
    · rcases q with ⟨cb, sm, q⟩ | ⟨cb, _⟩
      · refine ⟨_, rfl, _, rfl, n, k, rfl, sm, cb, fun v R H1 s1 row ok ro => ⟨n, R, row, fun t it => ⟨by show 2 ≤ sizeLine; decide, fun p hp => q _ R _ (same_trans s1 (same_new hp)) ok ro ⟨p, t, rfl, upd_same, it.same (same_new hp)⟩⟩⟩⟩
      · exact absurd (of_decide_eq_true z) cb
    · rcases q with ⟨cb, _⟩ | ⟨cb, q⟩
      · exact absurd (decide_eq_true cb) z
      · have n2 : 2 ≤ n := Nat.le_of_lt (Nat.lt_of_not_le fun c => cb (.inr c))
        refine ⟨_, rfl, _, rfl, RgOk.of_le (by omega) (by omega) (by omega) (by omega), fun r H1 s1 f1 => ?_⟩
        have i1 : ITF H1 (.ref r) (upto n) := ⟨r, rfl, by rw [← rgV_upto]; exact f1⟩
        refine ⟨_, rfl, by show 2 ≤ sizeLine; decide, fun r2 H2 s2 f2 => ?_⟩
        refine ⟨_, rfl, 2, rfl, upto n, 2, n, (i1.same s2).r, sIx_some _ _ 2 (by rw [upto_length]; exact n2), by rw [HT.sIx_none, upto_length], fun v3 H3 s3 i3 => ?_⟩
        have e3 : ((upto n).drop 2).take (n - 2) = (upto n).drop 2 := List.take_of_length_le (by rw [List.length_drop, upto_length]; exact Nat.le_refl _)
        rw [e3] at i3
        refine ⟨[1, 0], _, ⟨r2, rfl, f2.same s3⟩, i3, by decide, (by simp [upto_length]; omega), fun v4 H4 s4 i4 => ⟨by show 3 ≤ sizeLine; decide, fun p hp => ?_⟩⟩
        have s24 := same_trans s2 (same_trans s3 s4)
        exact q _ _ (same_trans s1 (same_trans s24 (same_new hp))) ⟨p, _, v4, rfl, upd_same, i1.same (same_trans s24 (same_new hp)), i4.same (same_new hp)⟩

abbrev s_orders_of : Stmt := topS 48
theorem sc_orders_of : FnScope ["row", "n", "window"] ["row"] (defScope s_orders_of) := ⟨rfl, rfl, rfl, by decide +kernel, rfl, by decide +kernel, by decide +kernel⟩
def spOrders (C : Addr) : Sp := fun vs H Q _ => ∃ (x : V) (n k : Nat) (R : List Int), vs = [x] ∧ RowAt C H x n R ∧ RowOk n R ∧ k + 1 = n ∧ RoundOk n k R ∧ ∀ v H', Same H H' → WT H' v ((wins R k).map fun u => u ++ lack n u) → Q v H'
theorem ok_orders_of {f : Addr} {fd : FuncData} (G : Glb mg) (T : ClsOk K C) (F : FunS K "orders_of" "orders_of" s_orders_of [] f fd) (m_windows : MetF P w K mg base 3 C "windows" (spWins C)) (c_is_choice : CalF P w K mg base 3 "is_choice" spIsChoice) (c_lacking : CalF P w K mg base 1 "lacking" spLacking) :
    FnOk P w K mg base CX0 4 f fd ["row"] (spOrders C) := by
  refine body0 F sc_orders_of (fun vs H Q E h => ?_) (fun cdv A outer s H vs Q E hr h => ?_)
  · obtain ⟨x, n, k, R, rfl, _⟩ := h
    rfl
  · obtain ⟨x, n, k, R, rfl, row, ok, hk, ro, q⟩ := h
    refine ⟨_, (pss_cons (ps_set (i := 1) sc_orders_of.nd rfl (Or.inr rfl) (pe_rowN T (pv 0)))
      (pss_one (ps_ret (pe_tupF (by rfl) G.tuple (pe_lc (own := [("window", 2)]) (g := gName 2) rfl sc_orders_of.nd (pi_tup (pe_met (pv 0) T.cl m_windows hr (by decide) (pa_cons (pe_op op_sub (pv 1) pe_int) pa_nil))) (blkOk_by (by kernel_rfl)) (fun _ _ _ _ _ => pg_name (i := 2) sc_orders_of.nd rfl (Or.inl rfl))
        (fun _ _ _ _ _ => pts_one (pt_val (pe_cal c_is_choice hr (by decide) (by rfl) (pa_cons (pv 1) (pa_cons (pe_op op_sub (pv 1) pe_int) (pa_cons (pv 2) pa_nil)))))) (fun _ _ _ _ _ => (pe_op op_catIT (pv 2) (pe_cal c_lacking hr (by decide) (by rfl) (pa_cons (pv 1) (pa_cons (pv 2) pa_nil)))))))))), ?_⟩
    obtain ⟨a, dx, t, rfl, ha, it⟩ := id row
    have n26 := ok.hi
    have on := ro.once (by omega)
    have lR := ok.len
    have e1 : (n : Int) - 1 = (k : Int) := by omega
    refine ⟨_, rfl, n, R, row, _, rfl, a, dx, _, rfl, ha, rfl, _, rfl, _, _, rfl, rfl, _, k, n, R, ?_, row, lR, by omega, fun v H1 s1 ⟨wa, wvs, ew, hw, its⟩ => ?_⟩
    · show [V.ref a, V.int ((n : Int) - 1)] = _
      rw [e1]
    subst ew
    have ll : wvs.length = (wins R k).length := its.length
    have lw : (wins R k).length = R.length := wins_length ..
    refine ⟨wa, rfl, ⟨_, .inl hw.rd⟩, fun D hD => lc_same (β := List Int) hD (src_tupF hw) (fun j => ((wins R k).map fun u => u ++ lack n u)[j]?) IT (fun _ _ _ _ s h => IT.n s h) (by omega) (fun _ => rfl) (fun j H2 hj s2 Rr hR => ?_) (fun j y H2 hj e s2 Rr hR => ?_) fun acc H2 s2 h2 p => ⟨D, acc, rfl, h2, fun r H3 s3 f => q _ _ (same_trans s1 (same_trans s2 s3)) ⟨r, acc, rfl, f, Its.same s3 ?_⟩⟩⟩
    · obtain ⟨v, u, hv, hu⟩ : ∃ v u, wvs[j]? = some v ∧ (wins R k)[j]? = some u := ⟨_, _, List.getElem?_eq_getElem hj, List.getElem?_eq_getElem (by omega)⟩
      obtain ⟨v', hv', iv⟩ := p_at2 its hu
      rw [hv] at hv'
      cases hv'
      have e : wvs.getD j .non = v := by rw [List.getD_eq_getElem?_getD, hv]; rfl
      have ic := on.ch u (List.mem_of_getElem? hu)
      refine ⟨_, rfl, _, rfl, _, _, rfl, rfl, _, rfl, n, k, v, u, ?_, (iv.same s2).r, ic, by omega, fun H3 s3 => ⟨true, rfl, ?_⟩⟩
      · show [V.int n, V.int ((n : Int) - 1), wvs.getD j .non] = _
        rw [e1, e]
      · have z := hR H3 s3
        rw [List.getElem?_map, hu] at z
        exact z
    · rw [List.getElem?_map] at e
      obtain ⟨u, hu, eu⟩ := Option.map_eq_some_iff.mp e
      obtain ⟨v, hv, iv⟩ := p_at2 its hu
      have ev : wvs.getD j .non = v := by rw [List.getD_eq_getElem?_getD, hv]; rfl
      have ic := on.ch u (List.mem_of_getElem? hu)
      have iv2 : IT H2 (wvs.getD j .non) u := by rw [ev]; exact iv.same s2
      refine ⟨_, rfl, _, rfl, _, rfl, n, _, u, rfl, iv2.r, n26, fun v2 H3 s3 i3 => ⟨u, lack n u, iv2.same s3, i3, ?_, fun v4 H4 s4 i4 => hR v4 H4 (same_trans s3 s4) (by rw [← eu]; exact i4)⟩⟩
      have l1 : (lack n u).length ≤ n := by
        unfold lack
        exact Nat.le_trans (List.length_filter_le _ _) (Nat.le_of_eq (upto_length n))
      rw [ic.len]
      omega
    · have le : wvs.length = ((wins R k).map fun u => u ++ lack n u).length := by rw [List.length_map, ll]
      rw [le, range_get] at p
      exact p
end
end WR

-- part: WRW14
set_option Elab.async false
set_option linter.all false
set_option maxRecDepth 100000
set_option maxHeartbeats 1000000
/-! waylooks.py -/
namespace WR
open PySem PySem.Spec PyProof.Rows L2
section
variable {P : Program} {w : World} {K : PySem.W.Frag} {mg : Str → Option Value} {base : Heap} {C CP : Addr}

abbrev s_shows_once : Stmt := topS 50
theorem sc_shows_once : FnScope ["n", "k", "things", "row", "windows", "window"] ["n", "k", "things"] (defScope s_shows_once) := ⟨rfl, rfl, rfl, by decide +kernel, rfl, by decide +kernel, by decide +kernel⟩
/-- a row whose windows of k are unlike choices -/
structure Shown (n k : Nat) (ts : List Int) : Prop where
  ok : RowOk n ts
  kn : k ≤ n
  nd : (wins ts k).Nodup
  ch : ∀ u ∈ wins ts k, IsCh n k u
def spShowsOnce : Sp := fun vs H Q _ => ∃ (n k : Nat) (x : V) (ts : List Int), vs = [.int n, .int k, x] ∧ IT H x ts ∧ Shown n k ts ∧ ∀ H', Same H H' → Q (.bl (decide (ts.length = cnt n k))) H'
theorem ok_shows_once {f CE : Addr} {fd : FuncData} (G : Glb mg) (T : ClsOk K C) (gE : mg "NoRow" = some (.ref CE)) (F : FunS K "shows_once" "shows_once" s_shows_once [] f fd) (m_Round : MakF P w K mg base 4 "Round" C (spInit K)) (m_windows : MetF P w K mg base 3 C "windows" (spWins C))
    (c_is_choice : CalF P w K mg base 3 "is_choice" spIsChoice) (c_count : CalF P w K mg base 1 "count" spCount) : FnOk P w K mg base CX0 6 f fd ["n", "k", "things"] spShowsOnce := by
  refine body0 F sc_shows_once (fun vs H Q E h => ?_) (fun cdv A outer s H vs Q E hr h => ?_)
  · obtain ⟨n, k, x, ts, rfl, _⟩ := h
    rfl
  · obtain ⟨n, k, x, ts, rfl, hx, sh, q⟩ := h
    refine ⟨_, (pss_cons (ps_try_only (tb := fun W => tAsg (tRow C (tCons (tVar 0) (tCons (tVar 2) tNil))) (gName 3)) (ts := fun _ _ _ => tRet (tC (.bl false))) (Wout := fun _ _ _ _ => False) rfl rfl ⟨rfl, by decide, Or.inl gE⟩ takes0
        (fun W pn xe tk _ => pss_one (ps_set (i := 3) sc_shows_once.nd rfl (Or.inl rfl) (pe_row m_Round T hr (by decide) (by rfl) (pa_cons (pv 0) (pa_cons (pv 2) pa_nil)))))
        (fun a oe cls d pn _ _ => pss_one (ps_ret pe_bl)))
      (pss_cons (ps_set (i := 4) sc_shows_once.nd rfl (Or.inl rfl) (pe_callTy (cr_dictW hr.units rfl) (by rfl) G.dict PyProof.Rows.boot_dict (pa_cons (pe_lc (own := [("window", 5)]) (g := gName 5) rfl sc_shows_once.nd (pi_tup (pe_met (pv 3) T.cl m_windows hr (by decide) (pa_cons (pv 1) pa_nil))) (blkOk_by (by kernel_rfl))
        (fun _ _ _ _ _ => pg_name (i := 5) sc_shows_once.nd rfl (Or.inl rfl)) (fun _ _ _ _ _ => pts_one (pt_val (pe_cal c_is_choice hr (by decide) (by rfl) (pa_cons (pv 0) (pa_cons (pv 1) (pa_cons (pv 5) pa_nil)))))) (fun _ _ _ _ _ => (pe_tup (pa_cons (pv 5) (pa_cons pe_bl pa_nil))))) pa_nil)))
      (pss_one (ps_ret (pe_chain op_eq op_eq (pe_callB call_len_dT (by rfl) G.len PySem.boot_len (pa_cons (pv 4) pa_nil)) (pe_callB call_lenIT (by rfl) G.len PySem.boot_len (pa_cons (pe_rowT T (pv 3)) pa_nil)) (pe_cal c_count hr (by decide) (by rfl) (pa_cons (pv 0) (pa_cons (pv 1) pa_nil)))))))), ?_⟩
    have n26 := sh.ok.hi
    have lt := sh.ok.len
    have kn := sh.kn
    refine ⟨_, rfl, _, rfl, n, x, ts, rfl, hx, sh.ok, fun v H1 s1 row => ?_⟩
    obtain ⟨a, dx, t, rfl, ha, it⟩ := id row
    refine ⟨_, rfl, a, dx, _, rfl, ha, rfl, _, rfl, _, k, n, ts, rfl, row, lt, by omega, fun v2 H2 s2 ⟨wa, wvs, ew, hw, its⟩ => ?_⟩
    subst ew
    have ll : wvs.length = (wins ts k).length := its.length
    have lw : (wins ts k).length = ts.length := wins_length ..
    refine ⟨wa, rfl, ⟨_, .inl hw.rd⟩, fun D hD => lc_same (β := List Int) hD (src_tupF hw) (fun j => (wins ts k)[j]?) (fun H v u => ∃ p b, v = .ref p ∧ H p = some (.tup [.ref b, .bl true]) ∧ H b = some (.tup (u.map V.int))) (fun H H' v u s ⟨p, b, e, a1, a2⟩ => ⟨p, b, e, s _ _ nofun a1, s _ _ nofun a2⟩) (by omega) (fun _ => rfl)
      (fun j H3 hj s3 Rr hR => ?_) (fun j u H3 hj e s3 Rr hR => ?_) fun acc H3 s3 hl3 pr => ?_⟩
    · obtain ⟨v, u, hv, hu⟩ : ∃ v u, wvs[j]? = some v ∧ (wins ts k)[j]? = some u := ⟨_, _, List.getElem?_eq_getElem hj, List.getElem?_eq_getElem (by omega)⟩
      obtain ⟨v', hv', iv⟩ := p_at2 its hu
      rw [hv] at hv'
      cases hv'
      have e : wvs.getD j .non = v := by rw [List.getD_eq_getElem?_getD, hv]; rfl
      refine ⟨_, rfl, _, rfl, _, rfl, n, k, wvs.getD j .non, u, rfl, by rw [e]; exact (iv.same s3).r, sh.ch u (List.mem_of_getElem? hu), by omega, fun H4 s4 => ⟨true, rfl, ?_⟩⟩
      have z := hR H4 s4
      rw [hu] at z
      exact z
    · obtain ⟨v, hv, iv⟩ := p_at2 its e
      obtain ⟨b, rfl, hb⟩ := iv.same s3
      refine ⟨_, rfl, (by show 2 ≤ sizeLine; decide), fun p hp => hR _ _ (same_new hp) ⟨p, b, rfl, ?_, same_new hp _ _ hb⟩⟩
      have e2 : wvs.getD j .non = .ref b := by rw [List.getD_eq_getElem?_getD, hv]; rfl
      rw [e2]
      exact upd_same
    · rw [ll, range_get] at pr
      refine ⟨D, acc, _, rfl, hl3, pr, fun y H4 s4 dk => ?_⟩
      obtain ⟨d, kvs, rfl, hd, ky⟩ := dk
      have sH := same_trans s2 (same_trans s3 s4)
      refine ⟨_, rfl, d, kvs, rfl, hd, _, rfl, n, ts, row.same sH, fun t2 it2 => ⟨_, ts, rfl, it2.r, rfl, _, rfl, ?_⟩⟩
      have ek : ((kvs.length : Nat) : Int) = ((ts.length : Nat) : Int) := by rw [ky.len sh.nd, lw]
      rw [ek, decide_eq_true rfl]
      refine iteT ⟨_, rfl, _, rfl, n, k, rfl, kn, n26, rfl, ?_⟩
      have e : decide (V.int ((ts.length : Nat) : Int) = V.int ((cnt n k : Nat) : Int)) = decide (ts.length = cnt n k) := decide_eq_decide.mpr ⟨fun h => by injection h with h; omega, fun h => by rw [h]⟩
      rw [e]
      exact q _ (same_trans s1 sH)

abbrev s_shows_way : Stmt := topS 51
theorem sc_shows_way : FnScope ["n", "k", "thing"] ["n", "k", "thing"] (defScope s_shows_way) := ⟨rfl, rfl, rfl, by decide +kernel, rfl, by decide +kernel, by decide +kernel⟩
def spShowsWay : Sp := fun vs H Q _ => ∃ (n k : Nat) (p : Addr), vs = [.int n, .int k, .ref p] ∧ n ≤ 26 ∧
  ((∃ t ts, H p = some (.tup [.str "row", t]) ∧ IT H t ts ∧ Shown n k ts ∧ ∀ H', Same H H' → Q (.bl (decide (ts.length = cnt n k))) H') ∨
   (∃ t u c d, H p = some (.tup [.str "none", t, u]) ∧ ITF H t c ∧ ITF H u d ∧ (k ≠ n → ∀ H', Same H H' → Q (.bl false) H') ∧ (k = n → IsCh n n c ∧ IsCh n n d ∧ 1 ≤ n ∧ ∀ c' d' H', Same H H' → LoopOf c c' → LoopOf d d' → Q (.bl (decide (c' ≠ d'))) H')))
theorem ok_shows_way {f : Addr} {fd : FuncData} (G : Glb mg) (F : FunS K "shows_way" "shows_way" s_shows_way [] f fd) (c_shows_once : CalF P w K mg base 6 "shows_once" spShowsOnce) (c_is_choice : CalF P w K mg base 3 "is_choice" spIsChoice) (c_loop_of : CalF P w K mg base 2 "loop_of" spLoopOf) :
    FnOk P w K mg base CX0 7 f fd ["n", "k", "thing"] spShowsWay := by
  refine body0 F sc_shows_way (fun vs H Q E h => ?_) (fun cdv A outer s H vs Q E hr h => ?_)
  · obtain ⟨n, k, p, rfl, _⟩ := h
    rfl
  · obtain ⟨n, k, p, rfl, n26, q⟩ := h
    refine ⟨_, (pss_cons (ps_if (PW.pt (pw_or (pt_not (pt_val (pe_callB call_isTup (by rfl) G.isinstance boot_isinstance (pa_cons (pv 2) (pa_cons (pe_bltn (v := .ty "tuple") (by rfl) G.tuple PyProof.Rows.boot_tuple rfl) pa_nil))))) (pw_or (pt_cmpR op_lt (pe_callB call_lenV (by rfl) G.len PySem.boot_len (pa_cons (pv 2) pa_nil)) pe_int (nomark _))
          (pw_or1 (pt_not (pt_val (pe_callB call_isi (by rfl) G.isinstance boot_isinstance (pa_cons (pe_ix ix_tup (pv 2) pe_int (fun _ _ => rfl)) (pa_cons (pe_bltn (v := .ty "str") (by rfl) G.str PyProof.Rows.boot_str rfl) pa_nil)))))))))
        (pss_one (ps_ret pe_bl))
        pss_nil)
      (pss_cons (ps_if (pt_cmpR op_eq (pe_ix ix_tup (pv 2) pe_int (fun _ _ => rfl)) pe_str (nomark _))
        (pss_one (ps_ret (pe_and (pe_cmpR op_eq (pe_callB call_lenV (by rfl) G.len PySem.boot_len (pa_cons (pv 2) pa_nil)) pe_int (nomark _)) (pe_one (pe_cal c_shows_once hr (by decide) (by rfl) (pa_cons (pv 0) (pa_cons (pv 1) (pa_cons (pe_ix ix_tup (pv 2) pe_int (fun _ _ => rfl)) pa_nil))))))))
        pss_nil)
      (pss_cons (ps_if (PW.pt (pw_or (pt_cmpR op_ne (pe_ix ix_tup (pv 2) pe_int (fun _ _ => rfl)) pe_str (nomark _)) (pw_or (pt_cmpR op_ne (pe_callB call_lenV (by rfl) G.len PySem.boot_len (pa_cons (pv 2) pa_nil)) pe_int (nomark _)) (pw_or1 (pt_cmpR op_ne (pv 1) (pv 0) (nomark _))))))
        (pss_one (ps_ret pe_bl))
        pss_nil)
      (pss_cons (ps_if (PW.pt (pw_or (pt_not (pt_val (pe_cal c_is_choice hr (by decide) (by rfl) (pa_cons (pv 0) (pa_cons (pv 0) (pa_cons (pe_ix ix_tup (pv 2) pe_int (fun _ _ => rfl)) pa_nil)))))) (pw_or1 (pt_not (pt_val (pe_cal c_is_choice hr (by decide) (by rfl) (pa_cons (pv 0) (pa_cons (pv 0) (pa_cons (pe_ix ix_tup (pv 2) pe_int (fun _ _ => rfl)) pa_nil)))))))))
        (pss_one (ps_ret pe_bl))
        pss_nil)
      (pss_one (ps_ret (pe_cmpR (op_neIT hr.units) (pe_cal c_loop_of hr (by decide) (by rfl) (pa_cons (pe_ix ix_tup (pv 2) pe_int (fun _ _ => rfl)) pa_nil)) (pe_cal c_loop_of hr (by decide) (by rfl) (pa_cons (pe_ix ix_tup (pv 2) pe_int (fun _ _ => rfl)) pa_nil)) (nomark _)))))))), ?_⟩
    have at0 : ∀ (x y : V) (r : List V), atI (x :: r) (0 : Int) = some x := fun x y r => atI_nat (j := 0) rfl
    rcases q with ⟨t, ts, hp, it, sh, q⟩ | ⟨t, u, c, d, hp, ic, id', q1, q2⟩
    · refine ⟨_, rfl, p, _, rfl, .inl hp, true, rfl, iteF ⟨_, rfl, p, _, rfl, .inl hp, _, _, rfl, rfl, _, rfl, ?_⟩⟩
      refine iteF ⟨_, rfl, p, _, 0, _, rfl, rfl, .inl (.inl hp), atI_nat (j := 0) rfl, .str "row", .ty "str", _, _, true, rfl, .ty _, .base (.str _), kit_ty (by decide +kernel), true, rfl, iteF ?_⟩
      refine ⟨_, rfl, p, _, 0, _, rfl, rfl, .inl (.inl hp), atI_nat (j := 0) rfl, rfl, _, rfl, iteT ?_⟩
      refine ⟨_, rfl, p, _, rfl, .inl hp, rfl, _, rfl, iteT ⟨_, rfl, _, rfl, _, rfl, p, _, 1, t, rfl, rfl, .inl (.inl hp), atI_nat (j := 1) rfl, n, k, t, ts, rfl, it, sh, q⟩⟩
    · refine ⟨_, rfl, p, _, rfl, .inl hp, true, rfl, iteF ⟨_, rfl, p, _, rfl, .inl hp, _, _, rfl, rfl, _, rfl, ?_⟩⟩
      refine iteF ⟨_, rfl, p, _, 0, _, rfl, rfl, .inl (.inl hp), atI_nat (j := 0) rfl, .str "none", .ty "str", _, _, true, rfl, .ty _, .base (.str _), kit_ty (by decide +kernel), true, rfl, iteF ?_⟩
      refine ⟨_, rfl, p, _, 0, _, rfl, rfl, .inl (.inl hp), atI_nat (j := 0) rfl, rfl, _, rfl, iteF ?_⟩
      refine ⟨_, rfl, p, _, 0, _, rfl, rfl, .inl (.inl hp), atI_nat (j := 0) rfl, rfl, _, rfl, iteF ⟨_, rfl, p, _, rfl, .inl hp, rfl, _, rfl, iteF ⟨_, rfl, _, rfl, rfl, _, rfl, ite2 (fun z => ?_) fun z => ?_⟩⟩⟩
      · have ne : k ≠ n := fun e => by
          rw [e, decide_eq_true rfl] at z
          exact nomatch z
        exact q1 ne _ (same_refl _)
      · have e : k = n := Classical.byContradiction fun ne => z (by
          rw [decide_eq_false fun c => ne (by injection c with c; omega)]
          rfl)
        obtain ⟨cc, cd, n1, q3⟩ := q2 e
        refine ⟨_, rfl, _, rfl, _, rfl, p, _, 1, t, rfl, rfl, .inl (.inl hp), atI_nat (j := 1) rfl, n, n, t, c, rfl, ic.r, cc, n26, fun H1 s1 => ⟨true, rfl, iteF ?_⟩⟩
        have hp1 := s1 _ _ hp
        refine ⟨_, rfl, _, rfl, _, rfl, p, _, 2, u, rfl, rfl, .inl (.inl hp1), atI_nat (j := 2) rfl, n, n, u, d, rfl, (id'.same s1).r, cd, n26, fun H2 s2 => ⟨true, rfl, iteF ?_⟩⟩
        have s12 := same_trans s1 s2
        have hp2 := s2 _ _ hp1
        have nc : c ≠ [] := fun e => by
          have := cc.len
          rw [e, List.length_nil] at this
          omega
        have nd : d ≠ [] := fun e => by
          have := cd.len
          rw [e, List.length_nil] at this
          omega
        refine ⟨_, rfl, p, _, 1, t, rfl, rfl, .inl (.inl hp2), atI_nat (j := 1) rfl, t, c, rfl, ic.same s12, nc, by rw [cc.len]; omega, fun v1 c' H3 s3 l1 i1 => ?_⟩
        refine ⟨_, rfl, p, _, 2, u, rfl, rfl, .inl (.inl (s3 _ _ hp2)), atI_nat (j := 2) rfl, u, d, rfl, id'.same (same_trans s12 s3), nd, by rw [cd.len]; omega, fun v2 d' H4 s4 l2 i2 => ?_⟩
        exact ⟨c', d', i1.same s4, i2, q3 c' d' H4 (same_trans s12 (same_trans s3 s4)) l1 l2⟩
end
end WR

-- part: WRW15
set_option Elab.async false
set_option linter.all false
set_option maxRecDepth 100000
set_option maxHeartbeats 1000000
/-! the law's hand -/
namespace WR
open PySem PySem.Spec PyProof.Rows L2
/-- a hand that has drawn at most c times past its digits -/
def Hd (m : Nat) (H : Hp) (p : Addr) : Prop := ∃ d s c : Int, H p = some (.lst [.int d, .int s, .int c]) ∧ 0 ≤ d ∧ 0 ≤ s ∧ s < 9223372036854775808 ∧ 0 ≤ c ∧ c ≤ (m : Int)
theorem Hd.same {m : Nat} {H H' : Hp} {p : Addr} (s : Same H H') (h : Hd m H p) : Hd m H' p := by
  obtain ⟨d, a, c, h, r⟩ := h
  exact ⟨d, a, c, s _ _ h, r⟩
theorem Hd.le {m m' : Nat} {H : Hp} {p : Addr} (l : m ≤ m') (h : Hd m H p) : Hd m' H p := by
  obtain ⟨d, a, c, h, h1, h2, h3, h4, h5⟩ := h
  exact ⟨d, a, c, h, h1, h2, h3, h4, by omega⟩
/-- all but the hand is kept -/
def SameB (p : Addr) (H H' : Hp) : Prop := ∀ a o, a ≠ p → H a = some o → H' a = some o
theorem same_b {p : Addr} {H H' : Hp} (s : Same H H') : SameB p H H' := fun a o _ e => s a o e
theorem SameB.trans {p : Addr} {H H' H'' : Hp} (a : SameB p H H') (b : SameB p H' H'') : SameB p H H'' := fun x o n e => b x o n (a x o n e)
theorem SameB.n {p : Addr} {m : Nat} {H H' : Hp} (s : SameB p H H') (h : Hd m H p) : SameN H H' := fun a o n e => by
  obtain ⟨d, b, c, h, _⟩ := h
  refine s a o (fun z => ?_) e
  rw [z, h] at e
  exact n _ (Option.some.inj e).symm
theorem SameB.mut {p : Addr} {H : Hp} {o : HO} : SameB p H (upd H p o) := fun a u n e => by
  rw [upd_ne n]
  exact e
section
variable {P : Program} {w : World} {K : PySem.W.Frag} {mg : Str → Option Value} {base : Heap} {C CP : Addr}

abbrev s_l_hand : Stmt := topS 53
theorem sc_l_hand : FnScope ["_law_script", "_law_place", "_law_cell", "_law_digits"] ["_law_script", "_law_place"] (defScope s_l_hand) := ⟨rfl, rfl, rfl, by decide +kernel, rfl, by decide +kernel, by decide +kernel⟩
def spHand (K : PySem.W.Frag) : Sp := fun vs H Q _ => ∃ (l : Addr) (ns : List Int) (i : Nat), vs = [.ref l, .int i] ∧ SqL K H l (ns.map V.int) ∧ i ≤ 10 ∧ ∀ p H', Same H H' → H p = none → Hd 0 H' p → Q (.ref p) H'
theorem ok_l_hand {f : Addr} {fd : FuncData} (G : Glb mg) (F : FunS K "_law_hand" "_law_hand" s_l_hand [] f fd) : FnOk P w K mg base CX0 1 f fd ["_law_script", "_law_place"] (spHand K) := by
  refine body0 F sc_l_hand (fun vs H Q E h => ?_) (fun cdv A outer s H vs Q E hr h => ?_)
  · obtain ⟨l, ns, i, rfl, _⟩ := h
    rfl
  · obtain ⟨l, ns, i, rfl, hl, i10, q⟩ := h
    refine ⟨_, (pss_cons (ps_set (i := 2) sc_l_hand.nd rfl (Or.inl rfl) pe_int)
      (pss_cons (ps_if (pt_cmpR op_lt (pv 1) (pe_callB call_len (by rfl) G.len PySem.boot_len (pa_cons (pv 0) pa_nil)) (nomark _))
        (pss_one (ps_set (i := 2) sc_l_hand.nd rfl (Or.inl rfl) (pe_callB call_abs (by rfl) G.abs boot_abs (pa_cons (pe_ix ix_list (pv 0) (pv 1) (fun _ _ => rfl)) pa_nil))))
        pss_nil)
      (pss_cons (ps_set (i := 3) sc_l_hand.nd rfl (Or.inl rfl) (pe_ifExp (pt_cmpR op_ge (pv 2) (pe_op op_powW pe_int pe_int) (nomark _)) (pe_op op_mod (pv 2) (pe_op op_powW (pe_op op_powW pe_int pe_int) pe_int)) pe_int))
      (pss_one (ps_ret (pe_lst (pa_cons (pv 3) (pa_cons (pe_op op_add (pe_op op_add (pe_op op_mod (pv 2) pe_int) (pe_op op_mul pe_int (pv 1))) pe_int) (pa_cons pe_int pa_nil))))))))), ?_⟩
    have fin : ∀ cell : Int, 0 ≤ cell → (∀ p, H p = none → True) → tSeq (tAsg (tIf (tTest (tOp (rI0 fun i j => .bl (decide (j ≤ i))) (tVar 2) (tOp rPowW (tC (.int 10)) (tC (.int 18))))) (tOp (rI (fun _ j => 0 < j) fun i j => .int (i % j)) (tVar 2) (tOp rPowW (tOp rPowW (tC (.int 10)) (tC (.int 60))) (tC (.int 17)))) (tC (.int 0))) (gName 3))
        (tRet (tLst (tCons (tVar 3) (tCons (tOp (rI0 fun i j => .int (i + j)) (tOp (rI0 fun i j => .int (i + j)) (tOp (rI (fun _ j => 0 < j) fun i j => .int (i % j)) (tVar 2) (tC (.int 2305843009213693951))) (tOp (rI CMul fun i j => .int (i * j)) (tC (.int 7919)) (tVar 1))) (tC (.int 11))) (tCons (tC (.int 0)) tNil)))))
        { nx := fun _ H' => Q .non H', rt := Q } [some (.ref l), some (.int i), some (.int cell), none] H := fun cell h0 _ => by
      have rest : ∀ d : Int, 0 ≤ d → tRet (tLst (tCons (tVar 3) (tCons (tOp (rI0 fun i j => .int (i + j)) (tOp (rI0 fun i j => .int (i + j)) (tOp (rI (fun _ j => 0 < j) fun i j => .int (i % j)) (tVar 2) (tC (.int 2305843009213693951))) (tOp (rI CMul fun i j => .int (i * j)) (tC (.int 7919)) (tVar 1))) (tC (.int 11))) (tCons (tC (.int 0)) tNil))))
          { nx := fun _ H' => Q .non H', rt := Q } [some (.ref l), some (.int i), some (.int cell), some (.int d)] H := fun d hd => by
        refine ⟨_, rfl, _, rfl, _, _, rfl, rfl, by show (0 : Int) < 2305843009213693951; decide, _, rfl, _, _, rfl, rfl, .inl ⟨by decide, by decide⟩, _, _, rfl, rfl, _, _, rfl, rfl, (by show 3 ≤ sizeLine; decide), fun p hp => q p _ (same_new hp) hp ⟨d, _, 0, upd_same, hd, ?_, ?_, by decide, by decide⟩⟩
        · have a1 := Int.emod_nonneg cell (show (2305843009213693951 : Int) ≠ 0 by decide)
          show (0 : Int) ≤ cell % 2305843009213693951 + 7919 * (i : Int) + 11
          omega
        · have a1 := Int.emod_lt_of_pos cell (show (0 : Int) < 2305843009213693951 by decide)
          show cell % 2305843009213693951 + 7919 * (i : Int) + 11 < 9223372036854775808
          omega
      refine ⟨_, rfl, 10, 18, rfl, rfl, by decide, by decide +kernel, _, _, rfl, rfl, _, rfl, ite2 (fun z => ?_) fun z => rest 0 (Int.le_refl _)⟩
      refine ⟨_, rfl, 10, 60, rfl, rfl, by decide, by decide +kernel, _, 17, rfl, rfl, by decide, by decide +kernel, _, _, rfl, rfl, ?_, rest _ ?_⟩
      · exact Int.pow_pos (Int.pow_pos (by decide))
      · exact Int.emod_nonneg _ (Int.ne_of_gt (Int.pow_pos (Int.pow_pos (by decide))))
    refine ⟨_, rfl, _, rfl, .ref l, ns.length, rfl, .inl ⟨_, hl, (List.length_map _).symm⟩, _, _, rfl, rfl, _, rfl, ite2 (fun z => ?_) fun z => fin 0 (Int.le_refl _) fun _ _ => trivial⟩
    have z' := of_decide_eq_true z
    have hi : i < ns.length := by omega
    refine ⟨_, rfl, _, rfl, l, _, i, .int ns[i], rfl, rfl, hl, atI_nat (by rw [List.getElem?_map, List.getElem?_eq_getElem hi]; rfl), _, rfl, fin _ ?_ fun _ _ => trivial⟩
    split <;> omega
end
end WR

-- part: WRW16
set_option Elab.async false
set_option linter.all false
set_option maxRecDepth 100000
set_option maxHeartbeats 1000000
/-! the law's draws -/
namespace WR
open PySem PySem.Spec PyProof.Rows L2
theorem ix3 {x y z : V} : atI [x, y, z] (0 : Int) = some x ∧ atI [x, y, z] (1 : Int) = some y ∧ atI [x, y, z] (2 : Int) = some z := ⟨atI_nat (j := 0) rfl, atI_nat (j := 1) rfl, atI_nat (j := 2) rfl⟩
section
variable {P : Program} {w : World} {K : PySem.W.Frag} {mg : Str → Option Value} {base : Heap} {C CP : Addr}
abbrev s_l_take : Stmt := topS 54
theorem sc_l_take : FnScope ["_law_hand_here", "_law_many", "_law_digit", "_law_turn", "_law_mixed"] ["_law_hand_here", "_law_many"] (defScope s_l_take) := ⟨rfl, rfl, rfl, by decide +kernel, rfl, by decide +kernel, by decide +kernel⟩
def spTake : Sp := fun vs H Q _ => ∃ (p : Addr) (m c : Nat), vs = [.ref p, .int m] ∧ Hd c H p ∧ 1 ≤ m ∧ m ≤ 1000000 ∧ c ≤ 100000 ∧ ∀ r : Nat, r < m → ∀ H', SameB p H H' → Hd (c + 1) H' p → Q (.int r) H'
theorem ok_l_take {f : Addr} {fd : FuncData} (F : FunS K "_law_take" "_law_take" s_l_take [] f fd) : FnOk P w K mg base CX0 1 f fd ["_law_hand_here", "_law_many"] spTake := by
  refine body0 F sc_l_take (fun vs H Q E h => ?_) (fun cdv A outer s H vs Q E hr h => ?_)
  · obtain ⟨p, m, c, rfl, _⟩ := h
    rfl
  · obtain ⟨p, m, c, rfl, ⟨d, sd, ct, hp, d0, s0, s1, c0, c1⟩, m1, m2, cl, q⟩ := h
    refine ⟨_, (pss_cons (ps_if (pt_cmpR op_gt (pe_ix ix_list (pv 0) pe_int (fun _ _ => rfl)) pe_int (nomark _))
        (pss_cons (ps_set (i := 2) sc_l_take.nd rfl (Or.inl rfl) (pe_op op_mod (pe_ix ix_list (pv 0) pe_int (fun _ _ => rfl)) (pv 1)))
        (pss_cons (ps_asg (pe_op op_fdivN (pe_ix ix_list (pv 0) pe_int (fun _ _ => rfl)) (pv 1)) (pg_sub (pv 0) pe_int set_list))
        (pss_one (ps_ret (pv 2)))))
        pss_nil)
      (pss_cons (ps_asg (pe_op op_add (pe_ix ix_list (pv 0) pe_int (fun _ _ => rfl)) pe_int) (pg_sub (pv 0) pe_int set_list))
      (pss_cons (ps_set (i := 3) sc_l_take.nd rfl (Or.inl rfl) (pe_ix ix_list (pv 0) pe_int (fun _ _ => rfl)))
      (pss_cons (ps_set (i := 4) sc_l_take.nd rfl (Or.inl rfl) (pe_op op_mod (pe_op op_mul (pe_op op_add (pe_ix ix_list (pv 0) pe_int (fun _ _ => rfl)) (pe_op op_mul pe_int (pv 3))) (pe_op op_add pe_int (pe_op op_mul (pv 3) (pv 3)))) pe_int))
      (pss_cons (ps_asg (pe_op op_mod (pe_op op_mul (pv 4) (pe_op op_add (pe_op op_mod (pv 4) pe_int) pe_int)) pe_int) (pg_sub (pv 0) pe_int set_list))
      (pss_one (ps_ret (pe_op op_mod (pe_op op_fdivN (pe_ix ix_list (pv 0) pe_int (fun _ _ => rfl)) pe_int) (pv 1))))))))), ?_⟩
    have mpos : (0 : Int) < (m : Int) := by omega
    have dig : ∀ z : Int, ∃ r : Nat, r < m ∧ z % (m : Int) = (r : Int) := fun z => by
      have a1 := Int.emod_nonneg z (show (m : Int) ≠ 0 by omega)
      have a2 := Int.emod_lt_of_pos z mpos
      exact ⟨(z % (m : Int)).toNat, by omega, by omega⟩
    refine ⟨_, rfl, p, _, 0, .int d, rfl, rfl, .inl (.inl hp), ix3.1, _, _, rfl, rfl, _, rfl, ite2 (fun z => ?_) fun z => ?_⟩
    · obtain ⟨r, r1, r2⟩ := dig d
      refine ⟨_, rfl, p, _, 0, .int d, rfl, rfl, .inl (.inl hp), ix3.1, _, rfl, _, _, rfl, rfl, mpos, ?_⟩
      refine ⟨_, rfl, p, _, 0, .int d, rfl, rfl, .inl (.inl hp), ix3.1, _, rfl, _, _, rfl, rfl, ⟨by omega, by omega⟩, _, rfl, p, _, 0, 0, rfl, rfl, hp, rfl, ?_⟩
      refine ⟨_, rfl, ?_⟩
      show Q (V.int (d % (m : Int))) _
      rw [r2]
      refine q r r1 _ SameB.mut ⟨d.fdiv (m : Int), sd, ct, upd_same, ?_, s0, s1, c0, by omega⟩
      rw [Int.fdiv_eq_ediv_of_nonneg _ (by omega)]
      exact Int.ediv_nonneg d0 (by omega)
    · refine ⟨_, rfl, p, _, 2, .int ct, rfl, rfl, .inl (.inl hp), ix3.2.2, _, _, rfl, rfl, _, rfl, p, _, 2, 2, rfl, rfl, hp, rfl, ?_⟩
      have h1 : upd H p (.lst ([V.int d, .int sd, .int ct].set 2 (.int (ct + 1)))) p = some (.lst [.int d, .int sd, .int (ct + 1)]) := upd_same
      have b1 : SameB p H (upd H p (.lst ([V.int d, .int sd, .int ct].set 2 (.int (ct + 1))))) := SameB.mut
      refine ⟨_, rfl, p, _, 2, .int (ct + 1), rfl, rfl, .inl (.inl h1), ix3.2.2, ?_⟩
      refine ⟨_, rfl, p, _, 1, .int sd, rfl, rfl, .inl (.inl h1), ix3.2.1, _, rfl, _, _, rfl, rfl, .inl ⟨by decide, by decide⟩, _, _, rfl, rfl, _, rfl, _, rfl, _, _, rfl, rfl, .inl ⟨by omega, by omega⟩, _, _, rfl, rfl, _, _, rfl, rfl, .inl ⟨by omega, by omega⟩, _, _, rfl, rfl, by show (0 : Int) < 2305843009213693921; decide, ?_⟩
      have a1 := Int.emod_nonneg ((sd + 39373 * (ct + 1)) * (48271 + (ct + 1) * (ct + 1))) (show (2305843009213693921 : Int) ≠ 0 by decide)
      have a2 := Int.emod_lt_of_pos ((sd + 39373 * (ct + 1)) * (48271 + (ct + 1) * (ct + 1))) (show (0 : Int) < 2305843009213693921 by decide)
      dsimp only
      generalize ((sd + 39373 * (ct + 1)) * (48271 + (ct + 1) * (ct + 1))) % 2305843009213693921 = mx at a1 a2 ⊢
      refine ⟨_, rfl, _, rfl, _, _, rfl, rfl, by show (0 : Int) < 1000003; decide, _, _, rfl, rfl, _, _, rfl, rfl, .inl ⟨by omega, by omega⟩, _, _, rfl, rfl, by show (0 : Int) < 2305843009213693907; decide, _, rfl, p, _, 1, 1, rfl, rfl, h1, rfl, ?_⟩
      have a3 := Int.emod_nonneg (mx * (mx % 1000003 + 17)) (show (2305843009213693907 : Int) ≠ 0 by decide)
      have a4 := Int.emod_lt_of_pos (mx * (mx % 1000003 + 17)) (show (0 : Int) < 2305843009213693907 by decide)
      dsimp only
      generalize mx * (mx % 1000003 + 17) % 2305843009213693907 = s2 at a3 a4 ⊢
      refine ⟨_, rfl, p, _, 1, .int s2, rfl, rfl, .inl (.inl upd_same), ix3.2.1, _, _, rfl, rfl, ⟨by decide, by decide⟩, _, rfl, _, _, rfl, rfl, mpos, ?_⟩
      obtain ⟨r, r1, r2⟩ := dig (s2.fdiv 131071)
      dsimp only
      rw [r2]
      exact q r r1 _ (b1.trans SameB.mut) ⟨d, s2, ct + 1, upd_same, d0, a3, by omega, by omega, by omega⟩
end
end WR

-- part: WRW17
set_option Elab.async false
set_option linter.all false
set_option maxRecDepth 100000
set_option maxHeartbeats 1000000
/-! the law: sizes, windows, all_once -/
namespace WR
open PySem PySem.Spec PyProof.Rows L2
section
variable {P : Program} {w : World} {K : PySem.W.Frag} {mg : Str → Option Value} {base : Heap} {C CP : Addr}

abbrev s_l_sizes : Stmt := topS 55
theorem sc_l_sizes : FnScope ["_law_hand_here", "_law_n"] ["_law_hand_here"] (defScope s_l_sizes) := ⟨rfl, rfl, rfl, by decide +kernel, rfl, by decide +kernel, by decide +kernel⟩
def spSizes : Sp := fun vs H Q _ => ∃ (p : Addr) (c : Nat), vs = [.ref p] ∧ Hd c H p ∧ c ≤ 10000 ∧ ∀ (t : Addr) (n k : Nat) H', SameB p H H' → Hd (c + 3) H' p → 1 ≤ k → k ≤ n → n ≤ 26 → H' t = some (.tup [.int n, .int k]) → Q (.ref t) H'
theorem ok_l_sizes {f : Addr} {fd : FuncData} (G : Glb mg) (F : FunS K "_law_sizes" "_law_sizes" s_l_sizes [] f fd) (c_l_take : CalF P w K mg base 1 "_law_take" spTake) : FnOk P w K mg base CX0 2 f fd ["_law_hand_here"] spSizes := by
  refine body0 F sc_l_sizes (fun vs H Q E h => ?_) (fun cdv A outer s H vs Q E hr h => ?_)
  · obtain ⟨p, c, rfl, _⟩ := h
    rfl
  · obtain ⟨p, c, rfl, hd, cl, q⟩ := h
    refine ⟨_, (pss_cons (ps_if (pt_cmpR op_eq (pe_cal c_l_take hr (by decide) (by rfl) (pa_cons (pv 0) (pa_cons pe_int pa_nil))) pe_int (nomark _))
        (pss_cons (ps_set (i := 1) sc_l_sizes.nd rfl (Or.inl rfl) (pe_op op_add pe_int (pe_cal c_l_take hr (by decide) (by rfl) (pa_cons (pv 0) (pa_cons pe_int pa_nil)))))
        (pss_one (ps_ret (pe_tup (pa_cons (pv 1) (pa_cons (pe_op op_add pe_int (pe_cal c_l_take hr (by decide) (by rfl) (pa_cons (pv 0) (pa_cons (pv 1) pa_nil)))) pa_nil))))))
        pss_nil)
      (pss_cons (ps_set (i := 1) sc_l_sizes.nd rfl (Or.inl rfl) (pe_op op_add pe_int (pe_cal c_l_take hr (by decide) (by rfl) (pa_cons (pv 0) (pa_cons pe_int pa_nil)))))
      (pss_one (ps_ret (pe_tup (pa_cons (pv 1) (pa_cons (pe_ix ix_list (pe_lst (pa_cons pe_int (pa_cons (pe_callB (call_min2 rfl) (by rfl) G.min boot_min (pa_cons pe_int (pa_cons (pv 1) pa_nil))) (pa_cons (pe_callB (call_min2 rfl) (by rfl) G.min boot_min (pa_cons pe_int (pa_cons (pv 1) pa_nil))) (pa_cons (pv 1) pa_nil))))) (pe_cal c_l_take hr (by decide) (by rfl) (pa_cons (pv 0) (pa_cons pe_int pa_nil))) (fun _ _ => rfl)) pa_nil))))))), ?_⟩
    have two : (2 : Nat) ≤ sizeLine := by decide
    refine ⟨_, rfl, p, 2, c, rfl, hd, by decide, by decide, by omega, fun r0 _ H1 b1 h1 => ⟨rfl, _, rfl, ite2 (fun z => ?_) fun z => ?_⟩⟩
    · refine ⟨_, rfl, p, 7, c + 1, rfl, h1, by decide, by decide, by omega, fun r1 l1 H2 b2 h2 => ⟨_, _, rfl, rfl, ?_⟩⟩
      dsimp only
      rw [show (1 : Int) + (r1 : Int) = ((1 + r1 : Nat) : Int) by omega]
      refine ⟨_, rfl, _, rfl, _, rfl, p, 1 + r1, c + 2, rfl, h2, by omega, by omega, by omega, fun r2 l2 H3 b3 h3 => ⟨_, _, rfl, rfl, two, fun t ht => ?_⟩⟩
      refine q t (1 + r1) (1 + r2) _ (b1.trans (b2.trans (b3.trans (same_b (same_new ht))))) (h3.same (same_new ht)) (by omega) (by omega) (by omega) ?_
      rw [upd_same]
      show some (HO.tup [V.int ((1 + r1 : Nat) : Int), V.int (1 + (r2 : Int))]) = _
      rw [show (1 : Int) + (r2 : Int) = ((1 + r2 : Nat) : Int) by omega]
    · refine ⟨_, rfl, p, 26, c + 1, rfl, h1, by decide, by decide, by omega, fun r1 l1 H2 b2 h2 => ⟨_, _, rfl, rfl, ?_⟩⟩
      dsimp only
      rw [show (1 : Int) + (r1 : Int) = ((1 + r1 : Nat) : Int) by omega]
      generalize en : 1 + r1 = n at *
      refine ⟨_, rfl, _, rfl, _, _, rfl, _, rfl, _, _, rfl, _, rfl, (by show (4 : Nat) ≤ sizeLine; decide), fun l hl => ?_⟩
      obtain ⟨k2, e2, k2a, k2b⟩ : ∃ k2 : Nat, (if (n : Int) < 2 then (n : Int) else 2) = (k2 : Int) ∧ 1 ≤ k2 ∧ k2 ≤ n := by
        by_cases h : (n : Int) < 2
        · exact ⟨n, by rw [if_pos h], by omega, by omega⟩
        · exact ⟨2, by rw [if_neg h]; rfl, by omega, by omega⟩
      obtain ⟨k3, e3, k3a, k3b⟩ : ∃ k3 : Nat, (if (n : Int) < 3 then (n : Int) else 3) = (k3 : Int) ∧ 1 ≤ k3 ∧ k3 ≤ n := by
        by_cases h : (n : Int) < 3
        · exact ⟨n, by rw [if_pos h], by omega, by omega⟩
        · exact ⟨3, by rw [if_neg h]; rfl, by omega, by omega⟩
      dsimp only
      rw [e2, e3]
      have nlp : l ≠ p := fun e => by
        obtain ⟨a, b, c', h, _⟩ := h2
        rw [e, h] at hl
        exact nomatch hl
      have hlL : upd H2 l (.lst [.int 1, .int k2, .int k3, .int n]) l = some (.lst [.int 1, .int k2, .int k3, .int n]) := upd_same
      refine ⟨_, rfl, p, 4, c + 2, rfl, h2.same (same_new hl), by decide, by decide, by omega, fun r2 l2 H3 b3 h3 => ?_⟩
      have hl3 := b3 _ _ nlp hlL
      have pick : ∃ k : Nat, [V.int 1, .int k2, .int k3, .int n][r2]? = some (.int k) ∧ 1 ≤ k ∧ k ≤ n := by
        have : r2 = 0 ∨ r2 = 1 ∨ r2 = 2 ∨ r2 = 3 := by omega
        rcases this with e | e | e | e <;> subst e
        · exact ⟨1, rfl, by omega, by omega⟩
        · exact ⟨k2, rfl, k2a, k2b⟩
        · exact ⟨k3, rfl, k3a, k3b⟩
        · exact ⟨n, rfl, by omega, by omega⟩
      obtain ⟨k, ek, ka, kb⟩ := pick
      refine ⟨l, _, r2, .int k, rfl, rfl, .inl (.inl hl3), atI_nat ek, two, fun t ht => q t n k _ (b1.trans (b2.trans ((same_b (same_new hl)).trans (b3.trans (same_b (same_new ht)))))) (h3.same (same_new ht)) ka kb (by omega) upd_same⟩
end
end WR

-- part: WRW18
set_option Elab.async false
set_option linter.all false
set_option maxRecDepth 100000
set_option maxHeartbeats 1000000
/-! the law: windows, all_once -/
namespace WR
open PySem PySem.Spec PyProof.Rows L2
theorem pwins_get {a : List Int} {k p : Nat} (h : p < a.length + 1 - k) : (pwins a k)[p]? = some ((a.drop p).take k) := by
  unfold pwins
  rw [List.getElem?_map, List.getElem?_range h]
  rfl
theorem pwins_length (a : List Int) (k : Nat) : (pwins a k).length = a.length + 1 - k := by simp [pwins]
section
variable {P : Program} {w : World} {K : PySem.W.Frag} {mg : Str → Option Value} {base : Heap} {C CP : Addr}

abbrev s_l_windows : Stmt := topS 56
theorem sc_l_windows : FnScope ["_law_things", "_law_k", "_law_round_one", "_law_many", "_law_at", "_law_far"] ["_law_things", "_law_k", "_law_round_one"] (defScope s_l_windows) := ⟨rfl, rfl, rfl, by decide +kernel, rfl, by decide +kernel, by decide +kernel⟩
def spLWins : Sp := fun vs H Q _ => ∃ (x : V) (ts : List Int) (k : Nat) (b : Bool), vs = [x, .int k, .bl b] ∧ IT H x ts ∧ 1 ≤ k ∧ k ≤ 30 ∧ ts ≠ [] ∧ ts.length ≤ 1000 ∧ (b = false → k ≤ ts.length) ∧ ∀ v H', Same H H' → WL H' v (srt (if b = true then wins ts k else pwins ts k)) → Q v H'
theorem ok_l_windows {f : Addr} {fd : FuncData} (G : Glb mg) (F : FunS K "_law_windows" "_law_windows" s_l_windows [] f fd) : FnOk P w K mg base CX0 1 f fd ["_law_things", "_law_k", "_law_round_one"] spLWins := by
  refine body0 F sc_l_windows (fun vs H Q E h => ?_) (fun cdv A outer s H vs Q E hr h => ?_)
  · obtain ⟨x, ts, k, b, rfl, _⟩ := h
    rfl
  · obtain ⟨x, ts, k, b, rfl, hx, k1, k30, ne, len, kb, q⟩ := h
    refine ⟨_, (pss_cons (ps_set (i := 3) sc_l_windows.nd rfl (Or.inr rfl) (pe_callB call_lenIT (by rfl) G.len PySem.boot_len (pa_cons (pv 0) pa_nil)))
      (pss_cons (ps_if (pt_not (pt_val (pv 2)))
        (pss_one (ps_ret (pe_callB (cr_sortW hr.units) (by rfl) G.sorted boot_sorted (pa_cons (pe_lc (own := [("_law_at", 4)]) (g := gName 4) (tt := tYes) rfl sc_l_windows.nd (pi_range1 (by rfl) G.range (pa_cons (pe_op op_add (pe_op op_sub (pv 3) (pv 1)) pe_int) pa_nil)) (blkOk_by (by kernel_rfl)) (fun _ _ _ _ _ => pg_name (i := 4) sc_l_windows.nd rfl (Or.inl rfl)) (fun _ _ _ _ _ => pts_nil)
          (fun _ _ _ _ _ => (pe_slice sl_IT (pv 0) (po_some (pv 4)) (po_some (pe_op op_add (pv 4) (pv 1)))))) pa_nil))))
        pss_nil)
      (pss_one (ps_ret (pe_callB (cr_sortW hr.units) (by rfl) G.sorted boot_sorted (pa_cons (pe_lc (own := [("_law_at", 4)]) (g := gName 4) (tt := tYes) rfl sc_l_windows.nd (pi_range1 (by rfl) G.range (pa_cons (pv 3) pa_nil)) (blkOk_by (by kernel_rfl)) (fun _ _ _ _ _ => pg_name (i := 4) sc_l_windows.nd rfl (Or.inr rfl)) (fun _ _ _ _ _ => pts_nil)
        (fun _ _ _ _ _ => (pe_tupK (K := K) rfl (by rfl) G.tuple (pe_lc (own := [("_law_far", 5)]) (g := gName 5) (tt := tYes) rfl sc_l_windows.nd (pi_range1 (by rfl) G.range (pa_cons (pv 1) pa_nil)) (blkOk_by (by kernel_rfl)) (fun _ _ _ _ _ => pg_name (i := 5) sc_l_windows.nd rfl (Or.inl rfl)) (fun _ _ _ _ _ => pts_nil)
          (fun _ _ _ _ _ => (pe_ix ix_IT (pv 0) (pe_op op_mod (pe_op op_add (pv 4) (pv 5)) (pv 3)) (fun _ _ => rfl))))))) pa_nil)))))), ?_⟩
    have pos : 0 < ts.length := List.length_pos_iff.mpr ne
    refine ⟨_, rfl, _, ts, rfl, hx.r, ?_⟩
    refine ⟨_, rfl, b, rfl, ?_⟩
    cases b with
    | false =>
      have kle := kb rfl
      have en : (((ts.length : Nat) : Int) - (k : Int) + 1).toNat = ts.length + 1 - k := by omega
      refine iteT ⟨_, rfl, _, rfl, _, _, rfl, rfl, _, _, rfl, rfl, _, rfl, by omega, by omega, fun D hD => lc_map (ys := pwins ts k) hD (src_rng 0 _ H) (by rw [pwins_length]; exact en.symm) IT (fun _ _ _ _ s h => IT.n s h) (by show (((ts.length : Nat) : Int) - (k : Int) + 1).toNat ≤ _; omega) (fun _ => rfl) (fun j y H1 hj s1 R hR => ?_) fun acc H1 s1 h1 p => ?_⟩
      · have jl : j < ts.length + 1 - k := by
          have z := (List.getElem?_eq_some_iff.mp hj).1
          rw [pwins_length] at z
          exact z
        rw [pwins_get jl] at hj
        have ey := Option.some.inj hj
        refine ⟨_, rfl, _, rfl, _, rfl, _, rfl, _, rfl, _, _, rfl, rfl, _, rfl, ts, j, j + k, hx.same s1, ?_, ?_, fun v H2 s2 i2 => hR v H2 s2 ?_⟩
        · rw [Int.zero_add]
          exact sIx_some _ _ _ (by omega)
        · show HT.sIx ts.length ts.length (some (0 + (j : Int) + (k : Int))) = j + k
          rw [Int.zero_add, ← Int.natCast_add]
          exact sIx_some _ _ _ (by omega)
        · rw [show j + k - j = k by omega, ey] at i2
          exact i2
      · refine ⟨.ref D, pwins ts k, rfl, ⟨D, acc, rfl, h1, p⟩, fun u hu => ?_, fun y H2 s2 w2 => q y H2 (same_trans s1 s2) w2⟩
        obtain ⟨j, hj, rfl⟩ := List.mem_map.mp hu
        have jl := List.mem_range.mp hj
        intro e
        have z := congrArg List.length e
        rw [List.length_take, List.length_drop, List.length_nil] at z
        omega
    | true =>
      refine iteF ⟨_, rfl, _, rfl, by omega, by omega, fun D hD => lc_map (ys := wins ts k) hD (src_rng 0 ts.length H) (wins_length ..) IT (fun _ _ _ _ s h => IT.n s h) (by omega) (fun _ => rfl) (fun j y H1 hj s1 R hR => ?_) fun acc H1 s1 h1 p => ?_⟩
      · have jl : j < ts.length := by
          have z := (List.getElem?_eq_some_iff.mp hj).1
          rw [wins_length] at z
          exact z
        rw [wins_get jl] at hj
        have ey := Option.some.inj hj
        refine ⟨_, rfl, _, rfl, by omega, by omega, fun D2 hD2 => lct_ints (ys := win ts k j) hD2 (src_rng 0 k H1) (win_length ..) (by omega) (fun _ => rfl) (fun i z H2 hz s2 R2 hR2 => ?_) fun v H2 s2 i2 => hR v H2 s2 (by rw [← ey]; exact i2)⟩
        have il : i < k := by
          have z := (List.getElem?_eq_some_iff.mp hz).1
          rw [win_length] at z
          exact z
        rw [win_get il] at hz
        have ez := Option.some.inj hz
        refine ⟨_, rfl, _, rfl, _, rfl, _, _, rfl, rfl, _, rfl, _, _, rfl, rfl, by show (0 : Int) < _; omega, ts, (j + i) % ts.length, (hx.same (same_trans s1 s2)).r, ?_, Nat.mod_lt _ pos, ?_⟩
        · show V.int ((0 + (j : Int) + (0 + (i : Int))) % ((ts.length : Nat) : Int)) = _
          rw [Int.zero_add, Int.zero_add, ← Int.natCast_add, ← Int.natCast_emod]
        · have e : ts[(j + i) % ts.length]'(Nat.mod_lt _ pos) = z := by
            rw [← ez, ext, List.getD_eq_getElem?_getD, List.getElem?_eq_getElem (Nat.mod_lt _ pos)]
            rfl
          rw [e]
          exact hR2 H2 (same_refl _)
      · refine ⟨.ref D, wins ts k, rfl, ⟨D, acc, rfl, h1, p⟩, fun u hu => ?_, fun y H2 s2 w2 => q y H2 (same_trans s1 s2) w2⟩
        obtain ⟨j, hj, rfl⟩ := mem_wins.mp hu
        intro e
        have z := congrArg List.length e
        rw [win_length, List.length_nil] at z
        omega

abbrev s_l_all_once : Stmt := topS 57
theorem sc_l_all_once : FnScope ["_law_windows_here", "_law_n", "_law_k", "_law_window"] ["_law_windows_here", "_law_n", "_law_k"] (defScope s_l_all_once) := ⟨rfl, rfl, rfl, by decide +kernel, rfl, by decide +kernel, by decide +kernel⟩
def spAllOnce : Sp := fun vs H Q _ => ∃ (v : V) (ws : List (List Int)) (n k : Nat), vs = [v, .int n, .int k] ∧ WL H v ws ∧ Once n k ws ∧ k ≤ n ∧ n ≤ 26 ∧ cnt n k ≤ 1000 ∧ ∀ H', Same H H' → Q (.bl true) H'
theorem ok_l_all_once {f : Addr} {fd : FuncData} (G : Glb mg) (F : FunS K "_law_all_once" "_law_all_once" s_l_all_once [] f fd) (c_count : CalF P w K mg base 1 "count" spCount) : FnOk P w K mg base CX0 2 f fd ["_law_windows_here", "_law_n", "_law_k"] spAllOnce := by
  refine body0 F sc_l_all_once (fun vs H Q E h => ?_) (fun cdv A outer s H vs Q E hr h => ?_)
  · obtain ⟨v, ws, n, k, rfl, _⟩ := h
    rfl
  · obtain ⟨v, ws, n, k, rfl, hv, on, kn, n26, few, q⟩ := h
    refine ⟨_, (pss_one (ps_ret (pe_and (pe_chain op_eq op_eq (pe_callB call_lenWT (by rfl) G.len PySem.boot_len (pa_cons (pv 0) pa_nil)) (pe_cal c_count hr (by decide) (by rfl) (pa_cons (pv 1) (pa_cons (pv 2) pa_nil))) (pe_lenSetW (by rfl) G.len (by rfl) G.set (pv 0) hr.units))
      (pe_one (pe_callB (cr_all rfl) (by rfl) G.all boot_all (pa_cons (pe_lc (own := [("_law_window", 3)]) (g := gName 3) (tt := tYes) rfl sc_l_all_once.nd (pi_list (pv 0)) (blkOk_by (by kernel_rfl)) (fun _ _ _ _ _ => pg_name (i := 3) sc_l_all_once.nd rfl (Or.inl rfl)) (fun _ _ _ _ _ => pts_nil)
        (fun _ _ _ _ _ => (pe_cmpR op_eq (pe_lenSetT (by rfl) G.len (by rfl) G.set (pv 3)) (pv 2) (nomark _)))) pa_nil)))))), ?_⟩
    have lw := on.len
    refine ⟨_, rfl, _, ws, rfl, .inr hv, _, rfl, _, rfl, n, k, rfl, kn, n26, rfl, _, rfl, ?_⟩
    rw [lw, decide_eq_true rfl]
    refine iteT ⟨_, rfl, ws, hv, on.nd, by omega, rfl, _, rfl, ?_⟩
    rw [lw, decide_eq_true rfl]
    obtain ⟨a, vs, rfl, ha, its⟩ := id hv
    have ll := its.length
    refine iteT ⟨_, rfl, a, rfl, ⟨_, .inl (.inl ha)⟩, fun D hD => lc_map (ys := ws) hD (src_lst ha) ll.symm (fun _ v _ => v = .bl true) (fun _ _ _ _ _ h => h) (by omega) (fun _ => rfl) (fun j u H1 hj s1 R hR => ?_) fun acc H1 s1 h1 p => ?_⟩
    · obtain ⟨v, hv2, iv⟩ := p_at2 its hj
      have ic := on.ch u (List.mem_of_getElem? hj)
      have e : vs.getD j .non = v := by rw [List.getD_eq_getElem?_getD, hv2]; rfl
      refine ⟨_, rfl, u, by rw [e]; exact (iv.same s1).r, ic.nd, by rw [ic.len]; omega, _, rfl, rfl, ?_⟩
      rw [ic.len]
      exact qT rfl (hR _ H1 (same_refl _) rfl)
    · have e := p_true p
      refine ⟨D, ws.map fun _ => true, rfl, .inl (.inl (by rw [h1, e])), ?_⟩
      rw [all_true]
      exact q _ s1
end
end WR

-- part: WRW19
set_option Elab.async false
set_option linter.all false
set_option maxRecDepth 100000
set_option maxHeartbeats 1000000
/-! the law: parts -/
namespace WR
open PySem PySem.Spec PyProof.Rows L2
section
variable {P : Program} {w : World} {K : PySem.W.Frag} {mg : Str → Option Value} {base : Heap} {C CP : Addr}

abbrev s_l_parts : Stmt := topS 58
theorem sc_l_parts : FnScope ["_law_hand_here", "_law_row", "_law_k", "_law_many", "_law_begin", "_law_ends", "_law_turn", "_law_place", "_law_found", "_law_at", "_law_far"] ["_law_hand_here", "_law_row", "_law_k"] (defScope s_l_parts) := ⟨rfl, rfl, rfl, by decide +kernel, rfl, by decide +kernel, by decide +kernel⟩
def spParts (C : Addr) : Sp := fun vs H Q _ => ∃ (p : Addr) (x : V) (k n c : Nat) (R : List Int), vs = [.ref p, x, .int k] ∧ Hd c H p ∧ c ≤ 10000 ∧ RowAt C H x n R ∧ RowOk n R ∧ 1 ≤ k ∧ k ≤ 30 ∧ (∀ H', SameB p H H' → Hd (c + 2) H' p → Q .non H') ∧
  ∀ (t : Addr) (a b : Nat) H', SameB p H H' → Hd (c + 2) H' p → a < b → b < R.length → win R (k - 1) a = win R (k - 1) b → H' t = some (.tup [.int a, .int b]) → Q (.ref t) H'
theorem ok_l_parts {f : Addr} {fd : FuncData} (G : Glb mg) (T : ClsOk K C) (F : FunS K "_law_parts" "_law_parts" s_l_parts [] f fd) (c_l_take : CalF P w K mg base 1 "_law_take" spTake) : FnOk P w K mg base CX0 2 f fd ["_law_hand_here", "_law_row", "_law_k"] (spParts C) := by
  refine body0 F sc_l_parts (fun vs H Q E h => ?_) (fun cdv A outer s H vs Q E hr h => ?_)
  · obtain ⟨p, x, k, n, c, R, rfl, _⟩ := h
    rfl
  · obtain ⟨p, x, k, n, c, R, rfl, hd, cl, row, ok, k1, k30, q0, q1⟩ := h
    refine ⟨_, (pss_cons (ps_set (i := 3) sc_l_parts.nd rfl (Or.inr rfl) (pe_callB call_lenIT (by rfl) G.len PySem.boot_len (pa_cons (pe_rowT T (pv 1)) pa_nil)))
      (pss_cons (ps_set (i := 4) sc_l_parts.nd rfl (Or.inl rfl) (pe_cal c_l_take hr (by decide) (by rfl) (pa_cons (pv 0) (pa_cons (pv 3) pa_nil))))
      (pss_cons (ps_set (i := 5) sc_l_parts.nd rfl (Or.inr rfl) (pe_lc (own := [("_law_at", 9)]) (g := gName 9) (tt := tYes) rfl sc_l_parts.nd (pi_range1 (by rfl) G.range (pa_cons (pv 3) pa_nil)) (blkOk_by (by kernel_rfl)) (fun _ _ _ _ _ => pg_name (i := 9) sc_l_parts.nd rfl (Or.inr rfl)) (fun _ _ _ _ _ => pts_nil)
        (fun _ _ _ _ _ => (pe_tupK (K := K) rfl (by rfl) G.tuple (pe_lc (own := [("_law_far", 10)]) (g := gName 10) (tt := tYes) rfl sc_l_parts.nd (pi_range1 (by rfl) G.range (pa_cons (pe_op op_sub (pv 2) pe_int) pa_nil)) (blkOk_by (by kernel_rfl)) (fun _ _ _ _ _ => pg_name (i := 10) sc_l_parts.nd rfl (Or.inl rfl)) (fun _ _ _ _ _ => pts_nil)
          (fun _ _ _ _ _ => (pe_ix ix_IT (pe_rowT T (pv 1)) (pe_op op_mod (pe_op op_add (pv 9) (pv 10)) (pv 3)) (fun _ _ => rfl))))))))
      (pss_cons (ps_for PassesOwn.never rfl (pi_range1 (by rfl) G.range (pa_cons (pv 3) pa_nil)) (pg_name (i := 6) sc_l_parts.nd rfl (Or.inl rfl))
        (pss_cons (ps_set (i := 7) sc_l_parts.nd rfl (Or.inr rfl) (pe_op op_mod (pe_op op_add (pv 4) (pv 6)) (pv 3)))
        (pss_cons (ps_setLc (i := 8) (own := [("_law_at", 9)]) (g := gName 9) rfl sc_l_parts.nd rfl rfl (sw_true rfl rfl rfl (by decide +kernel)) (pi_range2 (by rfl) G.range (pa_cons (pe_op op_add (pv 7) pe_int) (pa_cons (pv 3) pa_nil))) (blkOk_by (by kernel_rfl)) (fun _ _ _ _ _ => pg_name (i := 9) sc_l_parts.nd rfl (Or.inl rfl))
          (fun _ _ _ _ _ => pts_one (pt_cmpR (op_eqIT hr.units) (pe_ix ix_WL (pv 5) (pv 9) (fun _ _ => rfl)) (pe_ix ix_WL (pv 5) (pv 7) (fun _ _ => rfl)) (nomark _))) (fun _ _ _ _ _ => (pv 9)))
        (pss_one (ps_if (pt_cmpR (op_neNil hr.units) (pv 8) (pe_lst pa_nil) (nomark _))
          (pss_one (ps_ret (pe_tup (pa_cons (pv 7) (pa_cons (pe_ix ix_list (pv 8) (pe_cal c_l_take hr (by decide) (by rfl) (pa_cons (pv 0) (pa_cons (pe_callB call_lenV (by rfl) G.len PySem.boot_len (pa_cons (pv 8) pa_nil)) pa_nil))) (fun _ _ => rfl)) pa_nil)))))
          pss_nil)))))
      (pss_one (ps_ret pe_non)))))), ?_⟩
    have pos := ok.pos
    have len := ok.len
    refine ⟨_, rfl, n, R, row, fun t it => ⟨_, R, rfl, it.r, ?_⟩⟩
    refine ⟨_, rfl, _, rfl, p, R.length, c, rfl, hd, by omega, by omega, by omega, fun bg lbg H1 b1 h1 => ?_⟩
    have row1 := row.n (b1.n hd)
    refine ⟨_, rfl, _, rfl, by omega, by omega, fun D hD => lc_map (ys := wins R (k - 1)) hD (src_rng 0 R.length H1) (wins_length ..) IT (fun _ _ _ _ s h => IT.n s h) (by omega) (fun _ => rfl) (fun j y H2 hj s2 Rr hR => ?_) fun acc H2 s2 h2 pr => ?_⟩
    · have jl : j < R.length := by
        have z := (List.getElem?_eq_some_iff.mp hj).1
        rw [wins_length] at z
        exact z
      rw [wins_get jl] at hj
      have ey := Option.some.inj hj
      have ek : ((k : Int) - 1).toNat = k - 1 := by omega
      refine ⟨_, rfl, _, _, rfl, rfl, _, rfl, by omega, by omega, fun D2 hD2 => lct_ints (ys := win R (k - 1) j) hD2 (src_rng 0 _ H2) (by rw [win_length]; exact ek.symm) (by show ((k : Int) - 1).toNat ≤ _; omega) (fun _ => rfl) (fun i z H3 hz s3 R2 hR2 => ?_) fun v H3 s3 i3 => hR v H3 s3 (by rw [← ey]; exact i3)⟩
      have il : i < k - 1 := by
        have z := (List.getElem?_eq_some_iff.mp hz).1
        rw [win_length] at z
        exact z
      rw [win_get il] at hz
      have ez := Option.some.inj hz
      refine ⟨_, rfl, n, R, row1.same (same_trans s2 s3), fun t3 it3 => ⟨_, rfl, _, rfl, _, _, rfl, rfl, _, rfl, _, _, rfl, rfl, by show (0 : Int) < _; omega, R, (j + i) % R.length, it3.r, ?_, Nat.mod_lt _ pos, ?_⟩⟩
      · show V.int ((0 + (j : Int) + (0 + (i : Int))) % ((R.length : Nat) : Int)) = _
        rw [Int.zero_add, Int.zero_add, ← Int.natCast_add, ← Int.natCast_emod]
      · have e : R[(j + i) % R.length]'(Nat.mod_lt _ pos) = z := by
          rw [← ez, ext, List.getD_eq_getElem?_getD, List.getElem?_eq_getElem (Nat.mod_lt _ pos)]
          rfl
        rw [e]
        exact hR2 H3 (same_refl _)
    have ends : WL H2 (.ref D) (wins R (k - 1)) := ⟨D, acc, rfl, h2, pr⟩
    refine ⟨_, rfl, _, rfl, by omega, by omega, for_range (n := R.length) (fun i σ H' => ∃ x6 x7 x8, σ = [some (.ref p), some x, some (.int k), some (.int (R.length : Nat)), some (.int (bg : Nat)), some (.ref D), x6, x7, x8, none, none] ∧ Same H2 H') ⟨none, none, none, rfl, same_refl _⟩ (fun i σ H' hi pp => ?_) fun σ H' pp => ?_⟩
    · obtain ⟨x6, x7, x8, eσ, s4⟩ := pp
      subst eσ
      have epl : ((bg : Int) + (0 + (i : Int))) % ((R.length : Nat) : Int) = (((bg + i) % R.length : Nat) : Int) := by rw [Int.zero_add, ← Int.natCast_add, ← Int.natCast_emod]
      refine ⟨_, rfl, _, rfl, _, _, rfl, rfl, _, rfl, _, _, rfl, rfl, by show (0 : Int) < _; omega, ?_⟩
      dsimp only
      rw [epl]
      have pl : (bg + i) % R.length < R.length := Nat.mod_lt _ pos
      generalize (bg + i) % R.length = a at pl ⊢
      have en : (((R.length : Nat) : Int) - ((a : Int) + 1)).toNat = R.length - (a + 1) := by omega
      refine ⟨_, rfl, _, _, rfl, rfl, _, rfl, _, _, rfl, ⟨by omega, by omega, by omega, by omega⟩, fun D3 hD3 => lc_same (β := Int) hD3 (src_rng ((a : Int) + 1) _ H') (fun j => if decide (win R (k - 1) (a + 1 + j) = win R (k - 1) a) = true then some (((a + 1 + j : Nat) : Int)) else none) (fun _ v y => v = V.int y) (fun _ _ _ _ _ h => h) (by show (((R.length : Nat) : Int) - ((a : Int) + 1)).toNat ≤ _; omega) (fun _ => rfl)
        (fun j H5 hj s5 Rr hR => ?_) (fun j y H5 hj e s5 Rr hR => ?_) fun acc3 H5 s5 h5 p5 => ?_⟩
      · have jl : a + 1 + j < R.length := by
          have : j < (((R.length : Nat) : Int) - ((a : Int) + 1)).toNat := hj
          omega
        refine ⟨_, rfl, _, rfl, wins R (k - 1), a + 1 + j, _, ends.same (same_trans s4 s5), ?_, wins_get jl, fun v1 i1 => ⟨_, rfl, _, rfl, wins R (k - 1), a, _, ends.same (same_trans s4 s5), rfl, wins_get pl, fun v2 i2 => ⟨_, _, i1.r, i2.r, _, rfl, ?_⟩⟩⟩
        · show V.int ((a : Int) + 1 + (j : Int)) = _
          rw [show (a : Int) + 1 + (j : Int) = ((a + 1 + j : Nat) : Int) by omega]
        · have z := hR H5 (same_refl _)
          by_cases c : win R (k - 1) (a + 1 + j) = win R (k - 1) a
          · simpa [c] using z
          · simpa [c] using z
      · refine ⟨_, rfl, hR _ H5 (same_refl _) ?_⟩
        have z : (((a + 1 + j : Nat) : Int)) = y := by
          by_cases c : win R (k - 1) (a + 1 + j) = win R (k - 1) a
          · simpa [c] using e
          · simp [c] at e
        rw [← z]
        show V.int ((a : Int) + 1 + (j : Int)) = _
        rw [show (a : Int) + 1 + (j : Int) = ((a + 1 + j : Nat) : Int) by omega]
      · have e5 := p_ints p5
        have mem : ∀ y ∈ acc3, ∃ b : Nat, y = V.int b ∧ a < b ∧ b < R.length ∧ win R (k - 1) a = win R (k - 1) b := fun y hy => by
          rw [e5] at hy
          obtain ⟨z, hz, rfl⟩ := List.mem_map.mp hy
          obtain ⟨j, hj, ej⟩ := List.mem_filterMap.mp hz
          have jl := List.mem_range.mp hj
          have jl2 : j < (((R.length : Nat) : Int) - ((a : Int) + 1)).toNat := jl
          by_cases c : win R (k - 1) (a + 1 + j) = win R (k - 1) a
          · refine ⟨a + 1 + j, ?_, by omega, by omega, c.symm⟩
            have z2 : (((a + 1 + j : Nat) : Int)) = z := by simpa [c] using ej
            rw [z2]
          · simp [c] at ej
        have l3 : acc3.length ≤ 1000 := by
          have a1 := p_len p5
          have a2 := List.length_filterMap_le (fun j : Nat => if decide (win R (k - 1) (a + 1 + j) = win R (k - 1) a) = true then some (((a + 1 + j : Nat) : Int)) else none) (List.range (((R.length : Nat) : Int) - ((a : Int) + 1)).toNat)
          rw [List.length_range] at a2
          omega
        refine ⟨_, rfl, by decide, fun e0 he0 => ⟨D3, e0, acc3, rfl, rfl, same_new he0 _ _ h5, upd_same, _, rfl, ite2 (fun z => ?_) fun z => ?_⟩⟩
        · have ne : acc3 ≠ [] := of_decide_eq_true z
          have s6 := same_trans s5 (same_new (o := .lst []) he0)
          have h6 := same_new (o := .lst []) he0 _ _ h5
          generalize upd H5 e0 (.lst []) = H6 at s6 h6 ⊢
          have sall : Same H1 H6 := same_trans s2 (same_trans s4 s6)
          have hp6 := h1.same sall
          have nDp : D3 ≠ p := fun e => by
            obtain ⟨d, sd, ct, hpp, _⟩ := h1.same (same_trans s2 s4)
            rw [e] at hD3
            rw [hpp] at hD3
            exact nomatch hD3
          refine ⟨_, rfl, _, rfl, _, rfl, _, rfl, D3, acc3, rfl, .inr h6, p, acc3.length, c + 1, rfl, hp6, List.length_pos_iff.mpr ne, by omega, by omega, fun r lr H7 b7 h7 => ?_⟩
          obtain ⟨y, hy⟩ : ∃ y, acc3[r]? = some y := ⟨_, List.getElem?_eq_getElem lr⟩
          obtain ⟨b, eb, m1, m2, m3⟩ := mem y (List.mem_of_getElem? hy)
          subst eb
          refine ⟨D3, acc3, r, .int b, rfl, rfl, .inl (.inl (b7 _ _ nDp h6)), atI_nat hy, (by show (2 : Nat) ≤ sizeLine; decide), fun t ht => q1 t a b _ (b1.trans ((same_b sall).trans (b7.trans (same_b (same_new ht))))) (h7.same (same_new ht)) m1 m2 m3 upd_same⟩
        · exact ⟨_, _, _, rfl, same_trans s4 (same_trans s5 (same_new he0))⟩
    · obtain ⟨x6, x7, x8, eσ, s4⟩ := pp
      subst eσ
      exact q0 H' (b1.trans (same_b (same_trans s2 s4))) ((h1.same (same_trans s2 s4)).le (by omega))
end
end WR

-- part: WRW20
set_option Elab.async false
set_option linter.all false
set_option maxRecDepth 100000
set_option maxHeartbeats 1000000
/-! the law: turned, joined_right -/
namespace WR
open PySem PySem.Spec PyProof.Rows L2
/-- what isinstance(x, C) wants to know of an own class -/
structure IsC (K : PySem.W.Frag) (C : Addr) : Prop where
  ha : PySem.W.findIn K (.ref C) "__class__" = some (some (.builtin "object.__class__"))
  hn : PySem.W.specialIn K (.builtin "object.__class__") "__get__" = some (some (.builtin "getset_descriptor.__get__"))
  ht : PySem.W.takesIn K (.builtin "object.__class__") = some true
  hm : PySem.W.mroIn K C (.type "object") = some true
  yes : PySem.W.kitOne K (.ref C) (.ref C) = some true
theorem p_app {α β : Type} {F : α → β → Prop} {l₁ l₁' : List α} {l₂ l₂' : List β} (h : Paired F l₁ l₂) (h' : Paired F l₁' l₂') : Paired F (l₁ ++ l₁') (l₂ ++ l₂') := by
  induction h with
  | nil => exact h'
  | cons r _ ih => exact .cons r ih
section
variable {X : Cx}
theorem call_isRow {C : Addr} (T : ClsOk X.K C) (I : IsC X.K C) : CallR X (.builtin "isinstance") (fun xs H Q => ∃ x n ts, xs = [x, .ref C] ∧ RowAt C H x n ts ∧ Q (.bl true) H) := fun pins s σ H xs us Q I0 r ⟨x, n, ts, e, row, q⟩ => by
  obtain ⟨a, dx, t, rfl, ha, it⟩ := row
  exact call_isi pins s σ H xs us Q I0 r ⟨.ref a, .ref C, _, _, true, e, .own C, .base (.ins ha T.cl I.ha I.hn I.ht I.hm), I.yes, q⟩
/-- xs + ys of lists of tuples of ints -/
theorem op_catWL : OpR X (binaryOp .Add) (fun x y H Q => ∃ us ws, WL H x us ∧ WL H y ws ∧ us.length + ws.length ≤ 100000 ∧ ∀ v H', Same H H' → WL H' v (us ++ ws) → Q v H') := fun pins s σ H x y v u Q I rx ry ⟨us, ws, ⟨a, xs, e1, h1, i1⟩, ⟨b, ys, e2, h2, i2⟩, l, q⟩ =>
  op_cat pins s σ H x y v u Q I rx ry ⟨a, b, xs, ys, e1, e2, h1, h2, by rw [i1.length, i2.length]; exact szl l, fun p hp => q _ _ (same_new hp) ⟨p, _, rfl, upd_same, p_app (Its.same (same_new hp) i1) (Its.same (same_new hp) i2)⟩⟩
end
section
variable {P : Program} {w : World} {K : PySem.W.Frag} {mg : Str → Option Value} {base : Heap} {C CP : Addr}

abbrev s_l_turned : Stmt := topS 59
theorem sc_l_turned : FnScope ["_law_hand_here", "_law_row", "_law_at"] ["_law_hand_here", "_law_row"] (defScope s_l_turned) := ⟨rfl, rfl, rfl, by decide +kernel, rfl, by decide +kernel, by decide +kernel⟩
def spLTurned (C : Addr) : Sp := fun vs H Q _ => ∃ (p : Addr) (x : V) (n c : Nat) (R : List Int), vs = [.ref p, x] ∧ Hd c H p ∧ c ≤ 10000 ∧ RowAt C H x n R ∧ RowOk n R ∧ ∀ v a H', SameB p H H' → Hd (c + 1) H' p → a < R.length → RowAt C H' v n (rot R a) → Q v H'
theorem ok_l_turned {f : Addr} {fd : FuncData} (G : Glb mg) (T : ClsOk K C) (F : FunS K "_law_turned" "_law_turned" s_l_turned [] f fd) (c_l_take : CalF P w K mg base 1 "_law_take" spTake) (m_Round : MakF P w K mg base 4 "Round" C (spInit K)) : FnOk P w K mg base CX0 6 f fd ["_law_hand_here", "_law_row"] (spLTurned C) := by
  refine body0 F sc_l_turned (fun vs H Q E h => ?_) (fun cdv A outer s H vs Q E hr h => ?_)
  · obtain ⟨p, x, n, c, R, rfl, _⟩ := h
    rfl
  · obtain ⟨p, x, n, c, R, rfl, hd, cl, row, ok, q⟩ := h
    refine ⟨_, (pss_cons (ps_set (i := 2) sc_l_turned.nd rfl (Or.inl rfl) (pe_cal c_l_take hr (by decide) (by rfl) (pa_cons (pv 0) (pa_cons (pe_callB call_lenIT (by rfl) G.len PySem.boot_len (pa_cons (pe_rowT T (pv 1)) pa_nil)) pa_nil))))
      (pss_one (ps_ret (pe_row m_Round T hr (by decide) (by rfl) (pa_cons (pe_rowN T (pv 1)) (pa_cons (pe_op op_catIT (pe_slice sl_IT (pe_rowT T (pv 1)) (po_some (pv 2)) po_none) (pe_slice sl_IT (pe_rowT T (pv 1)) po_none (po_some (pv 2)))) pa_nil)))))), ?_⟩
    have pos := ok.pos
    have len := ok.len
    refine ⟨_, rfl, _, rfl, n, R, row, fun t it => ⟨_, R, rfl, it.r, p, R.length, c, rfl, hd, by omega, by omega, by omega, fun a la H1 b1 h1 => ?_⟩⟩
    have row1 := row.n (b1.n hd)
    have e1 : (R.drop a).take (R.length - a) = R.drop a := List.take_of_length_le (by rw [List.length_drop]; exact Nat.le_refl _)
    have e2 : (R.drop 0).take (a - 0) = R.take a := by rw [List.drop_zero, Nat.sub_zero]
    refine ⟨_, rfl, n, R, row1, _, rfl, n, R, row1, fun t1 it1 => ⟨_, rfl, _, rfl, R, a, R.length, it1, sIx_some _ _ _ (by omega), rfl, fun v2 H2 s2 i2 => ⟨_, rfl, n, R, row1.same s2, fun t3 it3 => ⟨_, rfl, _, rfl, R, 0, a, it3, rfl, sIx_some _ _ _ (by omega), fun v3 H3 s3 i3 => ?_⟩⟩⟩⟩
    rw [e1] at i2
    rw [e2] at i3
    refine ⟨_, _, i2.same s3, i3, by rw [List.length_drop, List.length_take]; omega, fun v4 H4 s4 i4 => ⟨n, v4, _, rfl, i4, ⟨ok.lo, ok.hi, rot_ne ok.ne, by show (rot R a).length ≤ _; rw [rot_length]; exact len, fun z hz => ok.bd z ((rot_perm R a).mem_iff.mp hz)⟩, fun v5 H5 s5 r5 => ?_⟩⟩
    have s15 := same_trans s2 (same_trans s3 (same_trans s4 s5))
    exact q v5 a H5 (b1.trans (same_b s15)) (h1.same s15) la r5

abbrev s_l_joined_right : Stmt := topS 60
theorem sc_l_joined_right : FnScope ["_law_one", "_law_other", "_law_k", "_law_both", "_law_row"] ["_law_one", "_law_other", "_law_k"] (defScope s_l_joined_right) := ⟨rfl, rfl, rfl, by decide +kernel, rfl, by decide +kernel, by decide +kernel⟩
def spJoinedRight (C : Addr) : Sp := fun vs H Q _ => ∃ (x y : V) (k n m : Nat) (a b : List Int), vs = [x, y, .int k] ∧ RowAt C H x n a ∧ RowAt C H y m b ∧ RowOk n a ∧ b ≠ [] ∧ (∀ z ∈ b, 0 ≤ z ∧ z < (n : Int)) ∧ a.length + b.length ≤ 1000 ∧ 1 ≤ k ∧ k ≤ 30 ∧ Both k a b ∧ ∀ H', Same H H' → Q (.bl true) H'
theorem ok_l_joined_right {f : Addr} {fd : FuncData} (G : Glb mg) (T : ClsOk K C) (IC : IsC K C) (gR : mg "Round" = some (.ref C)) (F : FunS K "_law_joined_right" "_law_joined_right" s_l_joined_right [] f fd) (c_l_windows : CalF P w K mg base 1 "_law_windows" spLWins) (c_joined : CalF P w K mg base 6 "joined" (spJoined C)) :
    FnOk P w K mg base CX0 7 f fd ["_law_one", "_law_other", "_law_k"] (spJoinedRight C) := by
  refine body0 F sc_l_joined_right (fun vs H Q E h => ?_) (fun cdv A outer s H vs Q E hr h => ?_)
  · obtain ⟨x, y, k, n, m, a, b, rfl, _⟩ := h
    rfl
  · obtain ⟨x, y, k, n, m, a, b, rfl, ra, rb, ok, nb, bdb, len, k1, k30, both, q⟩ := h
    refine ⟨_, (pss_cons (ps_set (i := 3) sc_l_joined_right.nd rfl (Or.inl rfl) (pe_callB (cr_sortW hr.units) (by rfl) G.sorted boot_sorted (pa_cons (pe_op op_catWL (pe_cal c_l_windows hr (by decide) (by rfl) (pa_cons (pe_rowT T (pv 0)) (pa_cons (pv 2) (pa_cons pe_bl pa_nil)))) (pe_cal c_l_windows hr (by decide) (by rfl) (pa_cons (pe_rowT T (pv 1)) (pa_cons (pv 2) (pa_cons pe_bl pa_nil))))) pa_nil)))
      (pss_cons (ps_set (i := 4) sc_l_joined_right.nd rfl (Or.inl rfl) (pe_cal c_joined hr (by decide) (by rfl) (pa_cons (pv 0) (pa_cons (pv 1) (pa_cons (pv 2) pa_nil)))))
      (pss_one (ps_ret (pe_and (pe_callB (call_isRow T IC) (by rfl) G.isinstance boot_isinstance (pa_cons (pv 4) (pa_cons (pe_glob (v := .ref C) (by rfl) gR rfl) pa_nil))) (pe_and (pe_cmpR op_eq (pe_rowN T (pv 4)) (pe_rowN T (pv 0)) (nomark _)) (pe_one (pe_cmpR (op_eqWL hr.units) (pe_cal c_l_windows hr (by decide) (by rfl) (pa_cons (pe_rowT T (pv 4)) (pa_cons (pv 2) (pa_cons pe_bl pa_nil)))) (pv 3) (nomark _))))))))), ?_⟩
    refine ⟨_, rfl, n, a, ra, fun t1 it1 => ⟨_, rfl, t1, a, k, true, rfl, it1, k1, k30, ok.ne, by omega, nofun, fun v1 H1 s1 w1 => ?_⟩⟩
    refine ⟨_, rfl, m, b, rb.same s1, fun t2 it2 => ⟨_, rfl, t2, b, k, true, rfl, it2, k1, k30, nb, by omega, nofun, fun v2 H2 s2 w2 => ?_⟩⟩
    have la : (srt (wins a k)).length = a.length := by rw [(srt_perm _).length_eq, wins_length]
    have lb : (srt (wins b k)).length = b.length := by rw [(srt_perm _).length_eq, wins_length]
    refine ⟨_, _, w1.same s2, w2, by show (srt (wins a k)).length + (srt (wins b k)).length ≤ _; omega, fun v3 H3 s3 w3 => ⟨v3, _, rfl, w3, fun u hu => ?_, fun v4 H4 s4 w4 => ?_⟩⟩
    · have : u ∈ wins a k ∨ u ∈ wins b k := by
        rcases List.mem_append.mp hu with c | c
        · exact .inl ((srt_perm _).mem_iff.mp c)
        · exact .inr ((srt_perm _).mem_iff.mp c)
      intro e
      have l : u.length = k := by
        rcases this with c | c
        · obtain ⟨j, _, rfl⟩ := mem_wins.mp c
          exact win_length ..
        · obtain ⟨j, _, rfl⟩ := mem_wins.mp c
          exact win_length ..
      rw [e, List.length_nil] at l
      omega
    have s14 := same_trans s1 (same_trans s2 (same_trans s3 s4))
    refine ⟨_, rfl, _, rfl, _, rfl, x, y, k, n, m, a, b, rfl, ra.same s14, rb.same s14, ok, bdb, len, k1, k30, both, fun v5 i j H5 hi hj e s5 r5 => ?_⟩
    have lr : (rot a i ++ rot b j).length = a.length + b.length := by rw [List.length_append, rot_length, rot_length]
    refine ⟨_, rfl, v5, n, _, rfl, r5, true, rfl, iteT ⟨_, rfl, n, _, r5, _, rfl, n, a, ra.same (same_trans s14 s5), rfl, _, rfl, ?_⟩⟩
    rw [decide_eq_true rfl]
    refine iteT ⟨_, rfl, n, _, r5, fun t6 it6 => ⟨_, rfl, t6, _, k, true, rfl, it6, k1, k30, fun z => rot_ne ok.ne (List.append_eq_nil_iff.mp z).1, by rw [lr]; exact len, nofun, fun v6 H6 s6 w6 => ⟨_, rfl, _, _, w6, w4.same (same_trans s5 s6), qT ?_ (q _ (same_trans s14 (same_trans s5 s6)))⟩⟩⟩
    show srt (wins (rot a i ++ rot b j) k) = srt (srt (wins a k) ++ srt (wins b k))
    refine srt_eq ((wins_joined hi hj e).trans ?_)
    exact (List.Perm.append (srt_perm _) (srt_perm _)).symm
end
end WR

-- part: WRW21
set_option Elab.async false
set_option linter.all false
set_option maxRecDepth 100000
set_option maxHeartbeats 1000000
/-! the law: row_right -/
namespace WR
open PySem PySem.Spec PyProof.Rows L2
section
variable {X : Cx}
theorem pss_weak (t' : TS) {t : TS} {ss : List Stmt} (h : PSs X ss t) (w : ∀ D σ H, t' D σ H → t D σ H) : PSs X ss t' := ⟨fun pins s σ H D I q => h.run pins s σ H D I (w D σ H q)⟩
end
def tTailR (C p : Addr) (n k c : Nat) (R : List Int) (q : Ends → Hp → Prop) : TS := fun D σ H => ∃ x y a5 a6 a7 a8 a9, σ = [some (.ref p), some (.int n), some (.int k), some x, some y, a5, a6, a7, a8, a9, none, none, none] ∧ RowAt C H y n R ∧ Hd (c + 5) H p ∧ q D H
def tTailS (C : Addr) (n k : Nat) (R : List Int) (q : Ends → Hp → Prop) : TS := fun D σ H => ∃ a0 x y a5 a6 a7 a8 a9 a10, σ = [a0, some (.int n), some (.int k), x, some y, a5, a6, a7, a8, a9, a10, none, none] ∧ RowAt C H y n R ∧ q D H
section
variable {P : Program} {w : World} {K : PySem.W.Frag} {mg : Str → Option Value} {base : Heap} {C CP : Addr}
abbrev s_l_row_right : Stmt := topS 61
theorem sc_l_row_right : FnScope ["_law_hand_here", "_law_n", "_law_k", "_law_things", "_law_row", "_law_plain", "_law_spots", "_law_one", "_law_other", "_law_both", "_law_drawn", "_law_orders", "_law_turn"] ["_law_hand_here", "_law_n", "_law_k", "_law_things"] (defScope s_l_row_right) := ⟨rfl, rfl, rfl, by decide +kernel, rfl, by decide +kernel, by decide +kernel⟩
def spRowRight : Sp := fun vs H Q _ => ∃ (p : Addr) (n k c : Nat) (x : V) (R : List Int), vs = [.ref p, .int n, .int k, x] ∧ Hd c H p ∧ c ≤ 1000 ∧ IT H x R ∧ RowOk n R ∧ RoundOk n k R ∧ Small n k ∧ ∀ H', SameB p H H' → Q (.bl true) H'
theorem ok_l_row_right {f : Addr} {fd : FuncData} (G : Glb mg) (T : ClsOk K C) (TP : ClsOk K CP) (ICP : IsC K CP) (gP : mg "Plain" = some (.ref CP)) (F : FunS K "_law_row_right" "_law_row_right" s_l_row_right [] f fd) (m_Round : MakF P w K mg base 4 "Round" C (spInit K)) (c_l_take : CalF P w K mg base 1 "_law_take" spTake)
    (c_l_windows : CalF P w K mg base 1 "_law_windows" spLWins) (c_l_all_once : CalF P w K mg base 2 "_law_all_once" spAllOnce) (m_just_once : MetF P w K mg base 6 C "just_once" (spOnce C (.bl true))) (m_opened : MetF P w K mg base 6 C "opened" (spOpened C CP)) (c_l_parts : CalF P w K mg base 2 "_law_parts" (spParts C))
    (c_parted : CalF P w K mg base 6 "parted" (spParted C)) (c_l_turned : CalF P w K mg base 6 "_law_turned" (spLTurned C)) (c_l_joined_right : CalF P w K mg base 7 "_law_joined_right" (spJoinedRight C)) (c_shared : CalF P w K mg base 5 "shared" (spShared C)) (c_orders_of : CalF P w K mg base 4 "orders_of" (spOrders C)) :
    FnOk P w K mg base CX0 8 f fd ["_law_hand_here", "_law_n", "_law_k", "_law_things"] spRowRight := by
  refine body0 F sc_l_row_right (fun vs H Q E h => ?_) (fun cdv A outer s H vs Q E hr h => ?_)
  · obtain ⟨p, n, k, c, x, R, rfl, _⟩ := h
    rfl
  · obtain ⟨p, n, k, c, x, R, rfl, hd, cl, hx, ok, ro, sm, q⟩ := h
    refine ⟨_, (pss_cons (ps_set (i := 4) sc_l_row_right.nd rfl (Or.inl rfl) (pe_row m_Round T hr (by decide) (by rfl) (pa_cons (pv 1) (pa_cons (pv 3) pa_nil))))
      (pss_cons (ps_if (PW.pt (pw_or (pt_not (pt_val (pe_cal c_l_all_once hr (by decide) (by rfl) (pa_cons (pe_cal c_l_windows hr (by decide) (by rfl) (pa_cons (pv 3) (pa_cons (pv 2) (pa_cons pe_bl pa_nil)))) (pa_cons (pv 1) (pa_cons (pv 2) pa_nil)))))) (pw_or1 (pt_not (pt_val (pe_met (pv 4) T.cl m_just_once hr (by decide) (pa_cons (pv 2) pa_nil)))))))
        (pss_one (ps_ret pe_bl))
        pss_nil)
      (pss_cons (ps_set (i := 5) sc_l_row_right.nd rfl (Or.inl rfl) (pe_met (pv 4) T.cl m_opened hr (by decide) (pa_cons (pe_cal c_l_take hr (by decide) (by rfl) (pa_cons (pv 0) (pa_cons (pe_callB call_lenIT (by rfl) G.len PySem.boot_len (pa_cons (pv 3) pa_nil)) pa_nil))) (pa_cons (pv 2) pa_nil))))
      (pss_cons (ps_if (PW.pt (pw_or (pt_not (pt_val (pe_callB (call_isRow TP ICP) (by rfl) G.isinstance boot_isinstance (pa_cons (pv 5) (pa_cons (pe_glob (v := .ref CP) (by rfl) gP rfl) pa_nil))))) (pw_or1 (pt_not (pt_val (pe_cal c_l_all_once hr (by decide) (by rfl) (pa_cons (pe_cal c_l_windows hr (by decide) (by rfl) (pa_cons (pe_rowT TP (pv 5)) (pa_cons (pv 2) (pa_cons pe_bl pa_nil)))) (pa_cons (pv 1) (pa_cons (pv 2) pa_nil)))))))))
        (pss_one (ps_ret pe_bl))
        pss_nil)
      (pss_cons (ps_set (i := 6) sc_l_row_right.nd rfl (Or.inl rfl) (pe_cal c_l_parts hr (by decide) (by rfl) (pa_cons (pv 0) (pa_cons (pv 4) (pa_cons (pv 2) pa_nil)))))
      (pss_cons (ps_if (pt_cmpR op_notN (pv 6) pe_non (nomark _))
        (pss_cons (ps_asg (pe_cal c_parted hr (by decide) (by rfl) (pa_cons (pv 4) (pa_cons (pv 2) (pa_cons (pe_ix ix_tup (pv 6) pe_int (fun _ _ => rfl)) (pa_cons (pe_ix ix_tup (pv 6) pe_int (fun _ _ => rfl)) pa_nil))))) (pg_tup rfl (pgs_cons (pg_name (i := 7) sc_l_row_right.nd rfl (Or.inl rfl)) (pgs_cons (pg_name (i := 8) sc_l_row_right.nd rfl (Or.inl rfl)) pgs_nil))))
        (pss_cons (ps_set (i := 9) sc_l_row_right.nd rfl (Or.inl rfl) (pe_op op_catWL (pe_cal c_l_windows hr (by decide) (by rfl) (pa_cons (pe_rowT T (pv 7)) (pa_cons (pv 2) (pa_cons pe_bl pa_nil)))) (pe_cal c_l_windows hr (by decide) (by rfl) (pa_cons (pe_rowT T (pv 8)) (pa_cons (pv 2) (pa_cons pe_bl pa_nil))))))
        (pss_cons (ps_if (PW.pt (pw_or (pt_cmpR (op_neWL hr.units) (pe_callB (cr_sortW hr.units) (by rfl) G.sorted boot_sorted (pa_cons (pv 9) pa_nil)) (pe_cal c_l_windows hr (by decide) (by rfl) (pa_cons (pv 3) (pa_cons (pv 2) (pa_cons pe_bl pa_nil)))) (nomark _)) (pw_or1 (pt_cmpR op_ne (pe_callB call_lenIT (by rfl) G.len PySem.boot_len (pa_cons (pe_rowT T (pv 7)) pa_nil)) (pe_op op_sub (pe_ix ix_tup (pv 6) pe_int (fun _ _ => rfl)) (pe_ix ix_tup (pv 6) pe_int (fun _ _ => rfl))) (nomark _)))))
          (pss_one (ps_ret pe_bl))
          pss_nil)
        (pss_one (ps_if (pt_not (pt_val (pe_cal c_l_joined_right hr (by decide) (by rfl) (pa_cons (pe_cal c_l_turned hr (by decide) (by rfl) (pa_cons (pv 0) (pa_cons (pv 7) pa_nil))) (pa_cons (pe_cal c_l_turned hr (by decide) (by rfl) (pa_cons (pv 0) (pa_cons (pv 8) pa_nil))) (pa_cons (pv 2) pa_nil))))))
          (pss_one (ps_ret pe_bl))
          pss_nil)))))
        pss_nil)
      (pss_weak (tTailR C p n k c R (fun D H => ∀ H', SameB p H H' → D.rt (.bl true) H')) (pss_cons (ps_set (i := 10) sc_l_row_right.nd rfl (Or.inl rfl) (pe_row m_Round T hr (by decide) (by rfl) (pa_cons (pv 1) (pa_cons (pe_tupleOf (by rfl) G.tuple (pe_lc (own := [("_law_turn", 12)]) (g := gName 12) (tt := tYes) rfl sc_l_row_right.nd (pi_range1 (by rfl) G.range (pa_cons (pe_op op_add pe_int (pe_cal c_l_take hr (by decide) (by rfl) (pa_cons (pv 0) (pa_cons pe_int pa_nil)))) pa_nil)) (blkOk_by (by kernel_rfl)) (fun _ _ _ _ _ => pg_name (i := 12) sc_l_row_right.nd rfl (Or.inl rfl)) (fun _ _ _ _ _ => pts_nil) (fun _ _ _ _ _ => (pe_cal c_l_take hr (by decide) (by rfl) (pa_cons (pv 0) (pa_cons (pv 1) pa_nil)))))) pa_nil))))
      (pss_cons (ps_if (PW.pt (pw_and (pt_cmpR op_notN (pe_cal c_shared hr (by decide) (by rfl) (pa_cons (pv 4) (pa_cons (pv 10) (pa_cons (pv 2) pa_nil)))) pe_non (nomark _)) (pw_and1 (pt_not (pt_val (pe_cal c_l_joined_right hr (by decide) (by rfl) (pa_cons (pv 4) (pa_cons (pv 10) (pa_cons (pv 2) pa_nil)))))))))
        (pss_one (ps_ret pe_bl))
        pss_nil)
      (pss_weak (tTailS C n k R (fun D H => ∀ H', Same H H' → D.rt (.bl true) H')) (pss_cons (ps_set (i := 11) sc_l_row_right.nd rfl (Or.inl rfl) (pe_ifExp (pt_cmpR op_eq (pv 2) (pe_op op_sub (pv 1) pe_int) (nomark _)) (pe_cal c_orders_of hr (by decide) (by rfl) (pa_cons (pv 4) pa_nil)) (pe_tup pa_nil)))
      (pss_one (ps_ret (pe_or (pe_cmpR op_ne (pv 2) (pe_op op_sub (pv 1) pe_int) (nomark _)) (pe_one (pe_cal c_l_all_once hr (by decide) (by rfl) (pa_cons (pe_callTy call_list_of (by rfl) G.list PyProof.Rows.boot_list (pa_cons (pv 11) pa_nil)) (pa_cons (pv 1) (pa_cons (pv 1) pa_nil))))))))) ?wk2))) ?wk))))))), ?_⟩
    case wk2 =>
      rintro D σ H0 ⟨a0, x', y, a5, a6, a7, a8, a9, a10, rfl, row, q0⟩
      have lo := ok.lo
      have few := sm.few
      refine ⟨_, rfl, _, rfl, _, _, rfl, rfl, rfl, _, rfl, ?_⟩
      by_cases h : k + 1 = n
      · have ek : V.int (k : Nat) = V.int ((n : Int) - 1) := congrArg V.int (by omega)
        refine (if_pos (decide_eq_true ek)).mpr ⟨_, rfl, y, n, k, R, rfl, row, ok, h, ro, fun v H1 s1 wt => ?_⟩
        refine ⟨_, rfl, _, rfl, _, _, rfl, rfl, rfl, _, rfl, (if_neg (by rw [decide_eq_true ek]; decide)).mpr ?_⟩
        obtain ⟨a, vs, rfl, tf, its⟩ := wt
        refine ⟨_, rfl, a, vs, rfl, .inr (.inl tf.rd), fun l hl => ⟨_, rfl, _, rfl, .ref l, _, n, n, rfl, ⟨l, vs, rfl, upd_same, its.same (same_new hl)⟩, orders_once h (ro.once sm.kn), Nat.le_refl _, ok.hi, ?_, fun H2 s2 => q0 _ (same_trans s1 (same_trans (same_new hl) s2))⟩⟩
        rw [cnt_full n lo, show n - 1 = k by omega]
        omega
      · have ek : ¬ V.int (k : Nat) = V.int ((n : Int) - 1) := fun z => h (by injection z with z; omega)
        refine (if_neg (by rw [decide_eq_false ek]; decide)).mpr ⟨by decide, fun t ht => ?_⟩
        refine ⟨_, rfl, _, rfl, _, _, rfl, rfl, rfl, _, rfl, (if_pos (by rw [decide_eq_false ek]; decide)).mpr ?_⟩
        exact q0 _ (same_new ht)
    case wk =>
      rintro D σ H0 ⟨x', y, a5, a6, a7, a8, a9, rfl, row, hd0, q0⟩
      have k1 := sm.k1
      have kn := sm.kn
      have n26 := sm.n26
      have lo := ok.lo
      have few := sm.few
      have rl := ro.length
      refine ⟨_, rfl, _, rfl, p, 30, c + 5, rfl, hd0, by omega, by omega, by omega, fun r hr30 H1 b1 h1 => ?_⟩
      have row1 := row.n (b1.n hd0)
      refine ⟨_, _, rfl, rfl, _, rfl, by omega, by omega, fun L hL => ?_⟩
      have en : ((1 : Int) + (r : Int)).toNat = r + 1 := by omega
      rw [en]
      have Lp : L ≠ p := fun z => by
        obtain ⟨_, _, _, z1, _⟩ := h1
        rw [z, z1] at hL
        cases hL
      refine lc_range (fun i H => ∃ acc : List Int, H L = some (.lst (acc.map V.int)) ∧ acc.length = i ∧ (∀ z ∈ acc, 0 ≤ z ∧ z < (n : Int)) ∧ SameB p H1 H ∧ Hd (c + 6 + i) H p) ⟨[], upd_same, rfl, nofun, same_b (same_new hL), h1.same (same_new hL)⟩ (fun i H hi pv => ?_) fun H pv => ?_
      · obtain ⟨acc, ha, la, bd, sb, hh⟩ := pv
        refine ⟨rfl, ?_⟩
        unfold tYes
        dsimp only
        rw [if_pos rfl]
        refine ⟨_, rfl, _, rfl, p, n, c + 6 + i, rfl, hh, by omega, by omega, by omega, fun u hu H2 b2 h2 => ⟨_, b2 _ _ Lp ha, ?_, acc ++ [(u : Int)], ?_, ?_, ?_, ?_, ?_⟩⟩
        · rw [List.length_map, la]
          exact szlt (by omega)
        · rw [List.map_append]
          exact upd_same
        · rw [List.length_append, la]
          rfl
        · intro z hz
          rcases List.mem_append.mp hz with h | h
          · exact bd z h
          · obtain rfl := List.mem_singleton.mp h
            omega
        · intro a o ne e
          rw [upd_ne (fun z => by rw [z, hL] at e; cases e)]
          exact b2 _ _ ne (sb _ _ ne e)
        · obtain ⟨d, s, c', e, r⟩ := h2
          exact ⟨d, s, c', by rw [upd_ne Lp.symm]; exact e, r⟩
      obtain ⟨ys, ha, la, bd, sb, hh⟩ := pv
      refine .inl ⟨L, _, rfl, .inl (.inl ha), fun q' hq' => ?_⟩
      have okd : RowOk n ys := ⟨ok.lo, ok.hi, fun z => (by rw [z, List.length_nil] at la; omega), by omega, bd⟩
      refine ⟨n, .ref q', ys, rfl, ⟨q', rfl, upd_same⟩, okd, fun v3 H3 s3 r3 => ?_⟩
      have s23 := same_trans (same_new hq') s3
      have row3 := (row1.n (sb.n h1)).same s23
      have sb3 : SameB p H0 H3 := b1.trans (sb.trans (same_b s23))
      refine ⟨_, rfl, _, rfl, _, rfl, y, v3, k, n, n, R, ys, rfl, row3, r3, ok.len, okd.len, k1, by omega, fun both v4 H4 s4 nv => ?_, fun nb H4 s4 => ?_⟩
      · refine ⟨rfl, _, rfl, ?_⟩
        refine (if_pos (by simp [nv])).mpr ?_
        refine ⟨_, rfl, _, rfl, _, rfl, y, v3, k, n, n, R, ys, rfl, row3.same s4, r3.same s4, ok, okd.ne, bd, by omega, k1, by omega, both, fun H5 s5 => ⟨true, rfl, iteF ?_⟩⟩
        exact ⟨_, _, _, _, _, _, _, _, _, rfl, row3.same (same_trans s4 s5), fun H' s' => q0 H' (sb3.trans (same_b (same_trans s4 (same_trans s5 s'))))⟩
      · refine ⟨rfl, _, rfl, ?_⟩
        refine (if_neg (by simp)).mpr (iteF ?_)
        exact ⟨_, _, _, _, _, _, _, _, _, rfl, row3.same s4, fun H' s' => q0 H' (sb3.trans (same_b (same_trans s4 s')))⟩
    have k1 := sm.k1
    have kn := sm.kn
    have n26 := sm.n26
    have few := sm.few
    have rl := ro.length
    have pos := ok.pos
    refine ⟨_, rfl, _, rfl, n, x, R, rfl, hx, ok, fun v1 H1 s1 r1 => ?_⟩
    have hd1 := hd.same s1
    have it1 := hx.same s1
    refine ⟨_, rfl, _, rfl, x, R, k, true, rfl, it1, k1, by omega, ok.ne, ok.len, nofun, fun v2 H2 s2 w2 => ?_⟩
    refine ⟨_, rfl, _, rfl, v2, _, n, k, rfl, w2, (ro.once kn).perm (srt_perm _), kn, n26, by omega, fun H3 s3 => ⟨true, rfl, ?_⟩⟩
    have s13 := same_trans s2 s3
    obtain ⟨a1, dx1, t1, rfl, ha1, ia1⟩ := id (r1.same s13)
    refine iteF ⟨_, rfl, a1, dx1, _, rfl, ha1, rfl, _, rfl, .ref a1, k, n, R, rfl, r1.same s13, ok, kn, ro, fun H4 s4 => ⟨true, rfl, iteF ?_⟩⟩
    have s14 := same_trans s13 s4
    have r4 := r1.same s14
    have hd4 := hd1.same s14
    have it4 := it1.same s14
    obtain ⟨dx2, t2, ha2, ia2⟩ : ∃ dx t, H4 a1 = some (.ins C dx [("n", .int n), ("things", t)]) ∧ IT H4 t R := by
      obtain ⟨a, dx, t, e, h⟩ := r4
      cases e
      exact ⟨dx, t, h⟩
    refine ⟨_, rfl, a1, dx2, _, rfl, ha2, rfl, _, rfl, _, rfl, x, R, rfl, it4.r, p, R.length, c, rfl, hd4, pos, by omega, by omega, fun pl hpl H5 b5 h5 => ?_⟩
    refine ⟨_, rfl, .ref a1, pl, k, n, R, rfl, r4.n (b5.n hd4), ok, hpl, by omega, k1, by omega, fun v5 H6 s6 r6 => ?_⟩
    have hd6 := h5.same s6
    have r6' : RowAt C H6 (.ref a1) n R := (r4.n (b5.n hd4)).same s6
    have it6 : IT H6 x R := (it4.n (b5.n hd4)).same s6
    refine ⟨_, rfl, v5, n, _, rfl, r6, true, rfl, iteF ⟨_, rfl, n, _, r6, fun t6 i6 => ⟨_, rfl, t6, _, k, false, rfl, i6, k1, by omega, ?_, ?_, ?_, fun v7 H7 s7 w7 => ?_⟩⟩⟩
    · intro z
      have := win_length R (R.length + k - 1) pl
      rw [z, List.length_nil] at this
      omega
    · rw [win_length]
      omega
    · intro _
      rw [win_length]
      omega
    refine ⟨_, rfl, _, rfl, v7, _, n, k, rfl, w7, ((ro.once kn).perm (pwins_opened k1 hpl)).perm (srt_perm _), kn, n26, by omega, fun H8 s8 => ⟨true, rfl, iteF ?_⟩⟩
    have s68 := same_trans s7 s8
    have row8 := r6'.same s68
    have hd8 := hd6.same s68
    have it8 := it6.same s68
    have sb8 : SameB p H H8 := (same_b (same_trans s1 s14)).trans (b5.trans (same_b (same_trans s6 s68)))
    refine ⟨_, rfl, _, rfl, _, rfl, p, .ref a1, k, n, c + 1, R, rfl, hd8, by omega, row8, ok, k1, by omega, fun H9 b9 h9 => ?_, fun t a b H9 b9 h9 hab hb e ht => ?_⟩
    · refine ⟨_, rfl, rfl, _, rfl, ?_⟩
      refine (if_neg (by simp)).mpr ⟨x, .ref a1, _, _, _, _, _, rfl, row8.n (b9.n hd8), h9.le (by omega), fun H' b' => ?_⟩
      exact q H' (sb8.trans (b9.trans b'))
    · have row9 := row8.n (b9.n hd8)
      have it9 := it8.n (b9.n hd8)
      have at0 : atI [V.int (a : Nat), V.int (b : Nat)] 0 = some (.int a) := rfl
      have at1 : atI [V.int (a : Nat), V.int (b : Nat)] 1 = some (.int b) := rfl
      refine ⟨_, rfl, rfl, _, rfl, ?_⟩
      refine (if_pos (by simp)).mpr ⟨_, rfl, _, rfl, _, rfl, t, _, 0, _, rfl, rfl, .inl (.inl ht), at0, _, rfl, t, _, 1, _, rfl, rfl, .inl (.inl ht), at1, .ref a1, k, a, b, n, R, rfl, row9, ok, k1, by omega, hab, hb, e, fun r v10 v11 H10 s10 hr10 r10 r11 => ?_⟩
      have len := ok.len
      have la : ((R.drop a).take (b - a)).length = b - a := by rw [List.length_take, List.length_drop]; omega
      have lb : (R.drop b ++ R.take a).length = R.length - (b - a) := by rw [List.length_append, List.length_drop, List.length_take]; omega
      have ok10 : RowOk n ((R.drop a).take (b - a)) := ⟨ok.lo, ok.hi, fun z => by rw [z, List.length_nil] at la; omega, by omega, fun y hy => ok.bd y (List.mem_of_mem_drop (List.mem_of_mem_take hy))⟩
      have ok11 : RowOk n (R.drop b ++ R.take a) := ⟨ok.lo, ok.hi, fun z => by rw [z, List.length_nil] at lb; omega, by omega, fun y hy => (List.mem_append.mp hy).elim (fun h => ok.bd y (List.mem_of_mem_drop h)) fun h => ok.bd y (List.mem_of_mem_take h)⟩
      have hd10 := h9.same s10
      have it10 := it9.same s10
      refine ⟨r, _, rfl, .inl (.inl hr10), rfl, _, _, rfl, _, _, rfl, rfl, ?_⟩
      refine ⟨_, rfl, n, _, r10, fun t12 it12 => ⟨_, rfl, t12, _, k, true, rfl, it12, k1, by omega, ok10.ne, ok10.len, nofun, fun v12 H12 s12 w12 => ?_⟩⟩
      refine ⟨_, rfl, n, _, r11.same s12, fun t13 it13 => ⟨_, rfl, t13, _, k, true, rfl, it13, k1, by omega, ok11.ne, ok11.len, nofun, fun v13 H13 s13 w13 => ?_⟩⟩
      have l12 : (srt (wins ((R.drop a).take (b - a)) k)).length = b - a := by rw [(srt_perm _).length_eq, wins_length, la]
      have l13 : (srt (wins (R.drop b ++ R.take a) k)).length = R.length - (b - a) := by rw [(srt_perm _).length_eq, wins_length, lb]
      refine ⟨_, _, w12.same s13, w13, by show (srt (wins ((R.drop a).take (b - a)) k)).length + (srt (wins (R.drop b ++ R.take a) k)).length ≤ _; omega, fun v14 H14 s14 w14 => ⟨_, rfl, v14, _, rfl, w14, fun u hu => ?_, fun v15 H15 s15 w15 => ?_⟩⟩
      · intro z
        have l : u.length = k := by
          rcases List.mem_append.mp hu with h | h
          · obtain ⟨j, _, rfl⟩ := mem_wins.mp ((srt_perm _).mem_iff.mp h)
            exact win_length ..
          · obtain ⟨j, _, rfl⟩ := mem_wins.mp ((srt_perm _).mem_iff.mp h)
            exact win_length ..
        rw [z, List.length_nil] at l
        omega
      have s115 := same_trans s12 (same_trans s13 (same_trans s14 s15))
      refine ⟨_, rfl, _, rfl, x, R, k, true, rfl, it10.same s115, k1, by omega, ok.ne, ok.len, nofun, fun v16 H16 s16 w16 => ?_⟩
      have eqw : srt (srt (wins ((R.drop a).take (b - a)) k) ++ srt (wins (R.drop b ++ R.take a) k)) = srt (wins R k) :=
        srt_eq (((List.Perm.append (srt_perm _) (srt_perm _))).trans (wins_parted hab hb e))
      refine ⟨_, _, w15.same s16, w16, _, rfl, ?_⟩
      refine (if_neg (fun z => absurd eqw (of_decide_eq_true z))).mpr ?_
      have s116 := same_trans s115 s16
      have r10' := r10.same s116
      have r11' := r11.same s116
      have ht10 := same_trans s10 s116 _ _ ht
      refine ⟨_, rfl, n, _, r10', fun t17 it17 => ⟨t17, _, rfl, it17.r, ?_⟩⟩
      rw [la]
      refine ⟨_, rfl, t, _, 1, _, rfl, rfl, .inl (.inl ht10), at1, _, rfl, t, _, 0, _, rfl, rfl, .inl (.inl ht10), at0, ?_⟩
      refine ⟨_, _, rfl, rfl, ?_⟩
      have cst : ((b - a : Nat) : Int) = (b : Int) - (a : Int) := by omega
      refine ⟨rfl, _, rfl, ?_⟩
      refine (if_neg (by rw [cst]; simp)).mpr ?_
      have hd16 := hd10.same s116
      refine ⟨_, rfl, _, rfl, p, v10, n, c + 3, _, rfl, hd16, by omega, r10', ok10, fun v17 i1 H17 b17 h17 hi1 r17 => ?_⟩
      refine ⟨_, rfl, _, rfl, p, v11, n, c + 4, _, rfl, h17, by omega, r11'.n (b17.n hd16), ok11, fun v18 i2 H18 b18 h18 hi2 r18 => ?_⟩
      refine ⟨_, rfl, v17, v18, k, n, n, _, _, rfl, r17.n (b18.n h17), r18, ⟨ok.lo, ok.hi, rot_ne ok10.ne, by show (rot _ _).length ≤ _; rw [rot_length]; omega, fun z hz => ok10.bd z ((rot_perm _ _).mem_iff.mp hz)⟩, rot_ne ok11.ne, fun z hz => ok11.bd z ((rot_perm _ _).mem_iff.mp hz), by rw [rot_length, rot_length]; omega, k1, by omega, ?_, fun H19 s19 => ?_⟩
      · have pb := part_both hab hb e
        have m1 : win ((R.drop a).take (b - a)) (k - 1) 0 ∈ wins ((R.drop a).take (b - a)) (k - 1) := mem_wins.mpr ⟨0, by omega, rfl⟩
        have m2 : win ((R.drop a).take (b - a)) (k - 1) 0 ∈ wins (R.drop b ++ R.take a) (k - 1) := by rw [pb]; exact mem_wins.mpr ⟨0, by omega, rfl⟩
        exact ⟨_, (mem_rot (by omega)).mpr m1, (mem_rot (by omega)).mpr m2⟩
      refine ⟨true, rfl, iteF ?_⟩
      have sb19 : SameB p H8 H19 := b9.trans ((same_b (same_trans s10 s116)).trans (b17.trans (b18.trans (same_b s19))))
      refine ⟨x, .ref a1, _, _, _, _, _, rfl, row8.n (sb19.n hd8), (h18.same s19).le (by omega), fun H' b' => ?_⟩
      exact q H' (sb8.trans (sb19.trans b'))
end
end WR

-- part: WRW22
set_option Elab.async false
set_option linter.all false
set_option maxRecDepth 100000
set_option maxHeartbeats 1000000
/-! round_row where there is none; the law: none_right -/
namespace WR
open PySem PySem.Spec PyProof.Rows L2
/-- NoWay, as the text behind the top holds it -/
structure NoW (K : PySem.W.Frag) (mg : Str → Option Value) (E B : Addr) : Prop where
  g : mg "NoWay" = some (.ref E)
  x : PySem.W.excIn K E [.type "ValueError", .type "Exception", .type "BaseException", .type "object"] "ValueError.__new__" = true
  k : PySem.W.keepIn K (.ref E) = true
  b : PySem.W.subIn K (.ref E) (.type "BaseException") = some true
  t : PySem.W.typeIn K (.ref E) = some (.type "type")
  e : PySem.W.exmOne K (.ref E) (.ref E) = some true
/-- a callee that raises -/
structure CalX (P : Program) (w : World) (K : PySem.W.Frag) (mg : Str → Option Value) (base : Heap) (k : Nat) (x : Str) (sp : Sp) : Prop where
  ex : ∃ (f : Addr) (fd : FuncData) (ps : List Str), FnOk P w K mg base (L2.CX P w) k f fd ps sp ∧ mg x = some (.ref f) ∧ PySem.W.keepIn K (.ref f) = true ∧ Binds K fd ps []
theorem sorted_upto {ns : List Int} {n : Nat} (p : ns.Perm (upto n)) (s : ns.Pairwise (· ≤ ·)) : ns = upto n := by
  refine List.Perm.eq_of_pairwise (le := fun a b : Int => a ≤ b) (fun a b _ _ h1 h2 => Int.le_antisymm h1 h2) s ?_ p
  unfold upto
  rw [List.pairwise_map]
  exact List.pairwise_lt_range.imp fun h => by omega
section
variable {X : Cx} {k j : Nat} {sp : Sp} {x : Str} {p pos : Pos} {e : Expr} {es : List Expr} {t : TA}
theorem pe_calX {W : WX} (c : CalX X.prog X.w X.K X.mg X.base k x sp) (hr : Room j X.A) (hk : k ≤ j) (hg : Gl X x) (tk : Takes X W) (ha : PA X (e :: es) t)
    (hdb : (x == ("__debug__" : Str)) = false := by decide) (he : starEach (e :: es) X.env = (false, eval e X.env) :: starEach es X.env := by rfl) (hpl : (backTo pos (starEach es X.env)).any (·.1) = false := by rfl) :
    PE X (.Call (.Name x p) (e :: es) [] pos) (tCallS sp (WE W) t) := by
  obtain ⟨f, fd, ps, F, hm, kp, b⟩ := c.ex
  exact pe_callS F (hr.mono hk) hg hm kp b (fun σ => passAt tk σ) ha hdb he hpl
end
section
variable {P : Program} {w : World} {K : PySem.W.Frag} {mg : Str → Option Value} {base : Heap} {C CP : Addr}
def spNoRow (CW : Addr) : Sp := fun vs H _ E => ∃ (n : Nat), vs = [.int n, .int n] ∧ 3 ≤ n ∧ ∀ H', Same H H' → E (.ref CW) none H'
theorem ok_no_row {f CW CB : Addr} {fd : FuncData} (N : NoW K mg CW CB) (F : FunS K "round_row" "round_row" s_round_row [] f fd) (c_can_be : CalF P w K mg base 1 "can_be" spCanBe) : FnOk P w K mg base (L2.CX P w) 7 f fd ["n", "k"] (spNoRow CW) := by
  refine F.ok sc_round_row (fun vs H Q E h => ?_) (fun cdv A outer s H vs Q E hr h => ?_)
  · obtain ⟨n, rfl, _⟩ := h
    rfl
  · obtain ⟨n, rfl, n3, q⟩ := h
    refine ⟨_, (pss_cons (ps_if (pt_not (pt_val (pe_cal c_can_be hr (by decide) (by rfl) (pa_cons (pv 0) (pa_cons (pv 1) pa_nil)))))
        (pss_one (ps_raise rfl (takes_of rfl rfl rfl rfl) (pmk_own PySem.F.excBase_ValueError N.x N.g N.k (raises_own N.b N.t) (by exact rfl))))
        pss_nil)
      pss_never), ?_⟩
    refine ⟨_, rfl, _, rfl, n, n, rfl, _, rfl, ?_⟩
    rw [decide_eq_false (show ¬ (n < n ∨ n ≤ 2) by omega)]
    exact iteT (q H (same_refl _))

abbrev s_l_none_right : Stmt := topS 62
theorem sc_l_none_right : FnScope ["_law_n", "_law_paper", "_law_refused", "_law_order"] ["_law_n", "_law_paper"] (defScope s_l_none_right) := ⟨rfl, rfl, rfl, by decide +kernel, rfl, by decide +kernel, by decide +kernel⟩
def spNoneRight : Sp := fun vs H Q _ => ∃ (n : Nat) (v : V), vs = [.int n, v] ∧ 3 ≤ n ∧ n ≤ 26 ∧ PapN H v n ∧ ∀ H', Same H H' → Q (.bl true) H'
theorem ok_l_none_right {f CW CB : Addr} {fd : FuncData} (G : Glb mg) (N : NoW K mg CW CB) (F : FunS K "_law_none_right" "_law_none_right" s_l_none_right [] f fd) (c_no_row : CalX P w K mg base 7 "round_row" (spNoRow CW)) (c_loop_of : CalF P w K mg base 2 "loop_of" spLoopOf) :
    FnOk P w K mg base CX0 8 f fd ["_law_n", "_law_paper"] spNoneRight := by
  refine body0 F sc_l_none_right (fun vs H Q E h => ?_) (fun cdv A outer s H vs Q E hr h => ?_)
  · obtain ⟨n, v, rfl, _⟩ := h
    rfl
  · obtain ⟨n, v, rfl, n3, n26, ⟨p, t, u, rfl, hp, it, iu⟩, q⟩ := h
    refine ⟨_, (pss_cons (ps_if (PW.pt (pw_or (pt_cmpR op_ne (pe_callB call_lenV (by rfl) G.len PySem.boot_len (pa_cons (pv 1) pa_nil)) pe_int (nomark _)) (pw_or1 (pt_not (pt_val (pe_callB (cr_all rfl) (by rfl) G.all boot_all (pa_cons (pe_lc (own := [("_law_order", 3)]) (g := gName 3) (tt := tYes) rfl sc_l_none_right.nd (pi_tup (pe_slice sl_tupA (pv 1) (po_some pe_int) po_none)) (blkOk_by (by kernel_rfl)) (fun _ _ _ _ _ => pg_name (i := 3) sc_l_none_right.nd rfl (Or.inl rfl)) (fun _ _ _ _ _ => pts_nil) (fun _ _ _ _ _ => (pe_cmpR (op_eqIL hr.units) (pe_callB cr_sortTI (by rfl) G.sorted boot_sorted (pa_cons (pv 3) pa_nil)) (pe_listRg rfl (by rfl) G.list (prg_1 (by rfl) G.range (pv 0))) (nomark _)))) pa_nil)))))))
        (pss_one (ps_ret pe_bl))
        pss_nil)
      (pss_cons (ps_set (i := 2) sc_l_none_right.nd rfl (Or.inl rfl) pe_bl)
      (pss_cons (ps_try_only (tb := fun W => tDrop (tCallS (spNoRow CW) (WE W) (tCons (tVar 0) (tCons (tVar 0) tNil)))) (ts := fun _ _ _ => tAsg (tC (.bl true)) (gName 2)) (Wout := fun _ _ _ _ => False) rfl rfl ⟨rfl, by decide, Or.inl N.g⟩ takes0
        (fun W pn xe tk _ => pss_one (ps_expr (pe_calX c_no_row hr (by decide) (by rfl) tk (pa_cons (pv 0) (pa_cons (pv 0) pa_nil)))))
        (fun a oe cls d pn _ _ => pss_one (ps_set (i := 2) sc_l_none_right.nd rfl (Or.inl rfl) pe_bl)))
      (pss_one (ps_ret (pe_and (pv 2) (pe_one (pe_cmpR (op_neIT hr.units) (pe_cal c_loop_of hr (by decide) (by rfl) (pa_cons (pe_ix ix_tup (pv 1) pe_int (fun _ _ => rfl)) pa_nil)) (pe_cal c_loop_of hr (by decide) (by rfl) (pa_cons (pe_ix ix_tup (pv 1) pe_int (fun _ _ => rfl)) pa_nil)) (nomark _))))))))), ?_⟩
    have cv : cutV [V.str "none", t, u] (some 1) none = [t, u] := rfl
    refine ⟨_, rfl, p, _, rfl, .inl hp, rfl, _, rfl, ?_⟩
    refine (if_neg (by simp)).mpr ⟨_, rfl, _, rfl, p, _, rfl, .inl (.inl hp), fun z => absurd z.1 (show ¬ (1 = 0) by decide), fun _ sp hsp => ?_⟩
    have s1 := same_new (o := .tup (cutV [V.str "none", t, u] (some 1) none)) hsp
    refine ⟨sp, rfl, ⟨_, .inl (.inl upd_same)⟩, fun D hD => lc_map (ys := [upto n, swapped n]) hD (src_tup upd_same) rfl (fun _ v _ => v = .bl true) (fun _ _ _ _ _ h => h) (show 2 ≤ 100000 by decide) (fun _ => rfl) (fun j y H1 hj s2 R hR => ?_) fun acc H1 s2 h1 p1 => ?_⟩
    · rw [cv]
      obtain ⟨x, ex, ix, pm, le⟩ : ∃ x, [t, u].getD j .non = x ∧ IR H1 x y ∧ y.Perm (upto n) ∧ y.length = n := by
        have s3 := same_trans s1 s2
        match j, hj with
        | 0, hj =>
          cases Option.some.inj hj
          exact ⟨t, rfl, (it.same s3).r, List.Perm.refl _, upto_length n⟩
        | 1, hj =>
          cases Option.some.inj hj
          exact ⟨u, rfl, (iu.same s3).r, swapped_perm (by omega), by rw [(swapped_perm (by omega)).length_eq, upto_length]⟩
        | j + 2, hj => cases hj
      rw [ex]
      refine ⟨_, rfl, x, y, rfl, ix, by omega, fun ns' q1 pp pw hq1 => ⟨_, rfl, _, rfl, RgOk.of_le (by omega) (by omega) (by omega) (by omega), fun q2 hq2 => ?_⟩⟩
      have e1 := sorted_upto (pp.trans pm) pw
      refine ⟨q1, q2, ns', upto n, rfl, rfl, ?_, ?_, qT e1 (hR _ _ (same_trans (same_new hq1) (same_new hq2)) rfl)⟩
      · exact same_new hq2 _ _ upd_same
      · rw [← rgV_upto]
        exact upd_same
    have e := p_true p1
    refine ⟨D, _, rfl, .inl (.inl (by rw [h1, e])), ?_⟩
    rw [all_true]
    refine ⟨true, rfl, iteF ?_⟩
    have s3 := same_trans s1 s2
    refine ⟨_, rfl, _, rfl, n, rfl, n3, fun H2 s4 => ⟨true, N.e, fun _ a ha => ?_, nofun⟩⟩
    have s5 := same_trans s3 s4
    have hp2 := s5 _ _ hp
    have at1 : atI [V.str "none", t, u] 1 = some t := rfl
    have at2 : atI [V.str "none", t, u] 2 = some u := rfl
    refine ⟨_, rfl, true, rfl, iteT ⟨_, rfl, p, _, 1, _, rfl, rfl, .inl (.inl hp2), at1, t, upto n, rfl, it.same s5, ?_, ?_, fun v3 d3 H3 s6 l3 i3 => ?_⟩⟩
    · intro z
      have z2 := upto_length n
      rw [z, List.length_nil] at z2
      omega
    · rw [upto_length]
      omega
    refine ⟨_, rfl, p, _, 2, _, rfl, rfl, .inl (.inl (s6 _ _ hp2)), at2, u, swapped n, rfl, iu.same (same_trans s5 s6), ?_, ?_, fun v4 d4 H4 s7 l4 i4 => ?_⟩
    · exact List.cons_ne_nil _ _
    · rw [(swapped_perm (by omega)).length_eq, upto_length]
      omega
    exact ⟨_, _, i3.same s7, i4, qT (loops_unlike n3 l3 l4) (q _ (same_trans s5 (same_trans s6 s7)))⟩
end
end WR

-- part: WRW23
set_option Elab.async false
set_option linter.all false
set_option maxRecDepth 100000
set_option maxHeartbeats 1000000
/-! the law: paper_right, law -/
namespace WR
open PySem PySem.Spec PyProof.Rows L2
section
variable {P : Program} {w : World} {K : PySem.W.Frag} {mg : Str → Option Value} {base : Heap} {C CP : Addr}
/-- the paper that way_paper gives -/
def PapOk (H : Hp) (v : V) (n k : Nat) : Prop := ((k < n ∨ n ≤ 2) ∧ Small n k ∧ ∃ R, RowOk n R ∧ RoundOk n k R ∧ PapR H v R) ∨ (¬ (k < n ∨ n ≤ 2) ∧ PapN H v n)
theorem shown_round {n k : Nat} {R : List Int} (ok : RowOk n R) (kn : k ≤ n) (ro : RoundOk n k R) : Shown n k R := ⟨ok, kn, (ro.once kn).nd, (ro.once kn).ch⟩

abbrev s_l_paper_right : Stmt := topS 63
theorem sc_l_paper_right : FnScope ["_law_hand_here", "_law_n", "_law_k", "_law_paper", "_law_plain"] ["_law_hand_here", "_law_n", "_law_k", "_law_paper"] (defScope s_l_paper_right) := ⟨rfl, rfl, rfl, by decide +kernel, rfl, by decide +kernel, by decide +kernel⟩
def spPaperRight : Sp := fun vs H Q _ => ∃ (p : Addr) (n k c : Nat) (v : V), vs = [.ref p, .int n, .int k, v] ∧ Hd c H p ∧ c ≤ 1000 ∧ 1 ≤ k ∧ k ≤ n ∧ n ≤ 26 ∧ PapOk H v n k ∧ ∀ H', SameB p H H' → Q (.bl true) H'
theorem ok_l_paper_right {f : Addr} {fd : FuncData} (G : Glb mg) (TP : ClsOk K CP) (F : FunS K "_law_paper_right" "_law_paper_right" s_l_paper_right [] f fd) (c_shows_way : CalF P w K mg base 7 "shows_way" spShowsWay) (c_l_none_right : CalF P w K mg base 8 "_law_none_right" spNoneRight)
    (c_plain_row : CalF P w K mg base 8 "plain_row" (spPlainRow CP)) (c_l_row_right : CalF P w K mg base 8 "_law_row_right" spRowRight) (c_l_all_once : CalF P w K mg base 2 "_law_all_once" spAllOnce) (c_l_windows : CalF P w K mg base 1 "_law_windows" spLWins) :
    FnOk P w K mg base CX0 9 f fd ["_law_hand_here", "_law_n", "_law_k", "_law_paper"] spPaperRight := by
  refine body0 F sc_l_paper_right (fun vs H Q E h => ?_) (fun cdv A outer s H vs Q E hr h => ?_)
  · obtain ⟨p, n, k, c, v, rfl, _⟩ := h
    rfl
  · obtain ⟨p, n, k, c, v, rfl, hd, cl, k1, kn, n26, pap, q⟩ := h
    refine ⟨_, (pss_cons (ps_if (pt_cmpR op_eq (pe_ix ix_tup (pv 3) pe_int (fun _ _ => rfl)) pe_str (nomark _))
        (pss_one (ps_ret (pe_and (pe_cmpR op_is_bl (pe_cal c_shows_way hr (by decide) (by rfl) (pa_cons (pv 1) (pa_cons (pv 2) (pa_cons (pe_tup (pa_cons pe_str (pa_cons (pe_tupRg rfl (by rfl) G.tuple (prg_1 (by rfl) G.range (pv 1))) pa_nil))) pa_nil)))) pe_bl (nomark _)) (pe_one (pe_cal c_l_none_right hr (by decide) (by rfl) (pa_cons (pv 1) (pa_cons (pv 3) pa_nil)))))))
        pss_nil)
      (pss_cons (ps_if (pt_cmpR op_isnot_bl (pe_cal c_shows_way hr (by decide) (by rfl) (pa_cons (pv 1) (pa_cons (pv 2) (pa_cons (pe_tup (pa_cons pe_str (pa_cons (pe_rgF (by rfl) G.tuple (prg_1 (by rfl) G.range (pv 1))) (pa_cons (pe_revT (pe_rgF (by rfl) G.tuple (prg_1 (by rfl) G.range (pv 1)))) pa_nil)))) pa_nil)))) pe_bl (nomark _))
        (pss_one (ps_ret pe_bl))
        pss_nil)
      (pss_weak (fun D σ H5 => ∃ R a t, σ = [some (.ref p), some (.int n), some (.int k), some (.ref a), none] ∧ Same H H5 ∧ H a = some (.tup [.str "row", t]) ∧ IT H t R ∧ Small n k ∧ (k < n ∨ n ≤ 2) ∧ RowOk n R ∧ RoundOk n k R ∧ ∀ H', SameB p H H' → D.rt (.bl true) H') (pss_cons (ps_set (i := 4) sc_l_paper_right.nd rfl (Or.inl rfl) (pe_rowT TP (pe_cal c_plain_row hr (by decide) (by rfl) (pa_cons (pv 1) (pa_cons (pv 2) pa_nil)))))
      (pss_one (ps_ret (pe_and (pe_cal c_l_row_right hr (by decide) (by rfl) (pa_cons (pv 0) (pa_cons (pv 1) (pa_cons (pv 2) (pa_cons (pe_ix ix_tup (pv 3) pe_int (fun _ _ => rfl)) pa_nil))))) (pe_one (pe_cal c_l_all_once hr (by decide) (by rfl) (pa_cons (pe_cal c_l_windows hr (by decide) (by rfl) (pa_cons (pv 4) (pa_cons (pv 2) (pa_cons pe_bl pa_nil)))) (pa_cons (pv 1) (pa_cons (pv 2) pa_nil))))))))) ?wk))), ?_⟩
    case wk =>
      rintro D σ H0 ⟨R, a, t, rfl, s0, ha, it, sm, cb, ok, ro, q0⟩
      have few := sm.few
      refine ⟨_, rfl, _, rfl, n, k, rfl, sm, cb, fun v1 R1 H1 s1 ok1 ro1 r1 => ⟨n, _, r1, fun t1 it1 => ?_⟩⟩
      have s01 := same_trans s0 s1
      have at1 : atI [V.str "row", t] 1 = some t := rfl
      refine ⟨_, rfl, _, rfl, _, rfl, _, rfl, a, _, 1, _, rfl, rfl, .inl (.inl (s01 _ _ ha)), at1, p, n, k, c, t, R, rfl, hd.same s01, cl, it.same s01, ok, ro, sm, fun H2 b2 => ⟨true, rfl, iteT ?_⟩⟩
      have it2 := it1.n (b2.n (hd.same s01))
      have lw := win_length R1 (R1.length + k - 1) 0
      have pos := ok1.pos
      have l1 := ro1.length
      refine ⟨_, rfl, _, rfl, t1, _, k, false, rfl, it2, k1, by omega, ?_, by omega, fun _ => by omega, fun v3 H3 s3 w3 => ?_⟩
      · intro z
        rw [z, List.length_nil] at lw
        omega
      refine ⟨_, rfl, _, rfl, v3, _, n, k, rfl, w3, ((ro1.once kn).perm (pwins_opened k1 pos)).perm (srt_perm _), kn, n26, by omega, fun H4 s4 => ?_⟩
      exact q0 H4 ((same_b s01).trans (b2.trans (same_b (same_trans s3 s4))))
    have two : (2 : Nat) ≤ sizeLine := by decide
    have three : (3 : Nat) ≤ sizeLine := by decide
    rcases pap with ⟨cb, sm, R, ok, ro, a, t, rfl, ha, it⟩ | ⟨cb, pn⟩
    · have at0 : atI [V.str "row", t] 0 = some (.str "row") := rfl
      have at1 : atI [V.str "row", t] 1 = some t := rfl
      refine ⟨_, rfl, a, _, 0, _, rfl, rfl, .inl (.inl ha), at0, rfl, _, rfl, ?_⟩
      refine (if_neg (show ¬ decide (V.str ("row" : Str) = V.str ("none" : Str)) = true by decide)).mpr ?_
      refine ⟨_, rfl, _, rfl, _, rfl, _, rfl, RgOk.of_le (by omega) (by omega) (by omega) (by omega), fun r1 H1 s1 f1 => ⟨_, rfl, _, rfl, RgOk.of_le (by omega) (by omega) (by omega) (by omega), fun r2 H2 s2 f2 => ⟨r2, _, rfl, f2.rd, fun r3 H3 s3 f3 => ⟨three, fun r4 hr4 => ?_⟩⟩⟩⟩
      have f1' : ITF H1 (.ref r1) (upto n) := ⟨r1, rfl, by rw [← rgV_upto]; exact f1⟩
      have f3' : ITF H3 (.ref r3) (upto n).reverse := ⟨r3, rfl, by rw [List.map_reverse, ← rgV_upto]; exact f3⟩
      have s4 := same_trans s1 (same_trans s2 (same_trans s3 (same_new (o := .tup [V.str "none", .ref r1, .ref r3]) hr4)))
      refine ⟨n, k, r4, rfl, n26, .inr ⟨.ref r1, .ref r3, upto n, (upto n).reverse, upd_same, f1'.same (same_trans s2 (same_trans s3 (same_new hr4))), f3'.same (same_new hr4), fun _ H5 s5 => ?_, fun e => ⟨upto_ch n, isch_perm (upto_ch n) (List.reverse_perm _), ok.lo, fun c' d' H5 s5 lc ld => ?_⟩⟩⟩
      · refine ⟨false, false, rfl, rfl, _, rfl, (if_neg (by simp)).mpr ?_⟩
        exact ⟨R, a, t, rfl, same_trans s4 s5, ha, it, sm, cb, ok, ro, q⟩
      · have n2 : n ≤ 2 := by omega
        have eq : c' = d' := by
          have h12 : n = 1 ∨ n = 2 := by have := ok.lo; omega
          rcases h12 with rfl | rfl
          · obtain ⟨i, hi, _, ei⟩ := lc
            obtain ⟨j, hj, _, ej⟩ := ld
            have i0 : i = 0 := by have : i < 1 := hi; omega
            have j0 : j = 0 := by have : j < 1 := hj; omega
            rw [ei, ej, i0, j0]
            rfl
          · exact loops_like2 lc ld
        rw [eq]
        refine ⟨false, false, by simp, rfl, _, rfl, (if_neg (by simp)).mpr ?_⟩
        exact ⟨R, a, t, rfl, same_trans s4 s5, ha, it, sm, cb, ok, ro, q⟩
    · obtain ⟨a, t, u, rfl, ha, it, iu⟩ := pn
      have ekn : k = n := by omega
      subst ekn
      have at0 : atI [V.str "none", t, u] 0 = some (.str "none") := rfl
      refine ⟨_, rfl, a, _, 0, _, rfl, rfl, .inl (.inl ha), at0, rfl, _, rfl, ?_⟩
      refine (if_pos (show decide (V.str ("none" : Str) = V.str ("none" : Str)) = true by decide)).mpr ?_
      refine ⟨_, rfl, _, rfl, _, rfl, _, rfl, RgOk.of_le (by omega) (by omega) (by omega) (by omega), fun r1 hr1 => ⟨two, fun r2 hr2 => ?_⟩⟩
      have i1 : IT (upd H r1 (.tup (rgV 0 (k : Int)))) (.ref r1) (upto k) := ⟨r1, rfl, by rw [← rgV_upto]; exact upd_same⟩
      have s2 := same_trans (same_new (o := .tup (rgV 0 (k : Int))) hr1) (same_new (o := .tup [.str "row", .ref r1]) hr2)
      have lu := upto_length k
      have wu := wins_upto k1 (upto_ch k)
      refine ⟨k, k, r2, rfl, n26, .inl ⟨.ref r1, upto k, upd_same, i1.same (same_new hr2), ⟨⟨k1, n26, fun z => by rw [z, List.length_nil] at lu; omega, by omega, fun y hy => mem_upto.mp hy⟩, Nat.le_refl _, wu.1, wu.2⟩, fun H3 s3 => ?_⟩⟩
      have gt := fact_gt (n := k) (by omega)
      rw [decide_eq_false (show ¬ (upto k).length = cnt k k by omega)]
      refine ⟨false, false, rfl, rfl, _, rfl, iteT ?_⟩
      have s23 := same_trans s2 s3
      refine ⟨_, rfl, _, rfl, k, .ref a, rfl, by omega, n26, ⟨a, t, u, rfl, s23 _ _ ha, it.same s23, iu.same s23⟩, fun H4 s4 => ?_⟩
      exact q H4 (same_b (same_trans s23 s4))

abbrev s_law : Stmt := topS 64
theorem sc_law : FnScope ["_law_script", "_law_turn", "_law_hand_here", "_law_n", "_law_k", "_law_there", "_law_paper"] ["_law_script"] (defScope s_law) := ⟨rfl, rfl, rfl, by decide +kernel, rfl, by decide +kernel, by decide +kernel⟩
def spLaw (K : PySem.W.Frag) : Sp := fun vs H Q _ => ∃ (l : Addr) (ns : List Int), vs = [.ref l] ∧ SqL K H l (ns.map V.int) ∧ ∀ H', Q (.bl true) H'
theorem sq_b {p l : Addr} {xs : List V} {H H' : Hp} (h : SqL K H l xs) (np : H p = none) (s : SameB p H H') : SqL K H' l xs := by
  have ne : ∀ {o}, H l = some o → l ≠ p := fun e z => by rw [z, np] at e; cases e
  rcases h with h | h
  · rcases h with h | ⟨o, h⟩
    · exact .inl (.inl (s _ _ (ne h) h))
    · exact .inl (.inr ⟨o, s _ _ (ne h) h⟩)
  · exact .inr h
def tLawA (l : Addr) : TS := fun D σ H => ∃ (p : Addr) (n k : Nat) (x1 x6 : Option V), σ = [some (.ref l), x1, some (.ref p), some (.int n), some (.int k), some (.bl (decide (k < n ∨ n ≤ 2))), x6] ∧ Hd 3 H p ∧ 1 ≤ k ∧ k ≤ n ∧ n ≤ 26 ∧
  ∀ y1 y2 y3 y4 y5 y6 H', SameB p H H' → D.nx [some (.ref l), y1, y2, y3, y4, y5, y6] H'
def tLawB (l : Addr) : TS := fun D σ H => ∃ (p : Addr) (n k : Nat) (x1 : Option V) (v : V), σ = [some (.ref l), x1, some (.ref p), some (.int n), some (.int k), some (.bl (decide (k < n ∨ n ≤ 2))), some v] ∧ Hd 3 H p ∧ 1 ≤ k ∧ k ≤ n ∧ n ≤ 26 ∧ PapOk H v n k ∧
  ∀ y1 y2 y3 y4 y5 y6 H', SameB p H H' → D.nx [some (.ref l), y1, y2, y3, y4, y5, y6] H'
theorem ok_law {f : Addr} {fd : FuncData} (G : Glb mg) (F : FunS K "law" "law" s_law [] f fd) (c_l_hand : CalF P w K mg base 1 "_law_hand" (spHand K)) (c_l_sizes : CalF P w K mg base 2 "_law_sizes" spSizes) (c_can_be : CalF P w K mg base 1 "can_be" spCanBe)
    (c_count : CalF P w K mg base 1 "count" spCount) (c_way_paper : CalF P w K mg base 8 "way_paper" spWayPaper) (c_shows_way : CalF P w K mg base 7 "shows_way" spShowsWay) (c_l_paper_right : CalF P w K mg base 9 "_law_paper_right" spPaperRight) :
    FnOk P w K mg base CX0 10 f fd ["_law_script"] (spLaw K) := by
  refine body0 F sc_law (fun vs H Q E h => ?_) (fun cdv A outer s H vs Q E hr h => ?_)
  · obtain ⟨l, ns, rfl, _⟩ := h
    rfl
  · obtain ⟨l, ns, rfl, hl, q⟩ := h
    refine ⟨_, (pss_cons (ps_for PassesOwn.never rfl (pi_range1 (by rfl) G.range (pa_cons (pe_op op_add pe_int (pe_callB call_lenV (by rfl) G.len PySem.boot_len (pa_cons (pe_slice sl_list (pv 0) po_none (po_some pe_int)) pa_nil))) pa_nil)) (pg_name (i := 1) sc_law.nd rfl (Or.inl rfl))
        (pss_cons (ps_set (i := 2) sc_law.nd rfl (Or.inl rfl) (pe_cal c_l_hand hr (by decide) (by rfl) (pa_cons (pv 0) (pa_cons (pv 1) pa_nil))))
        (pss_cons (ps_asg (pe_cal c_l_sizes hr (by decide) (by rfl) (pa_cons (pv 2) pa_nil)) (pg_tup rfl (pgs_cons (pg_name (i := 3) sc_law.nd rfl (Or.inl rfl)) (pgs_cons (pg_name (i := 4) sc_law.nd rfl (Or.inl rfl)) pgs_nil))))
        (pss_cons (ps_set (i := 5) sc_law.nd rfl (Or.inl rfl) (pe_or (pe_cmpR op_lt (pv 4) (pv 3) (nomark _)) (pe_one (pe_cmpR op_lt (pv 3) pe_int (nomark _)))))
        (pss_weak (tLawA l) (pss_cons (ps_if (pt_cmpR op_ne (pe_cal c_can_be hr (by decide) (by rfl) (pa_cons (pv 3) (pa_cons (pv 4) pa_nil))) (pv 5) (nomark _))
          (pss_one (ps_ret pe_bl))
          pss_nil)
        (pss_one (ps_if (PW.pt (pw_or (pt_not (pt_val (pv 5))) (pw_or1 (pt_cmpR op_le (pe_cal c_count hr (by decide) (by rfl) (pa_cons (pv 3) (pa_cons (pv 4) pa_nil))) pe_int (nomark _)))))
          (pss_cons (ps_set (i := 6) sc_law.nd rfl (Or.inl rfl) (pe_cal c_way_paper hr (by decide) (by rfl) (pa_cons (pv 3) (pa_cons (pv 4) pa_nil))))
          (pss_weak (tLawB l) (pss_cons (ps_if (PW.pt (pw_or (pt_cmpR op_isnot_bl (pe_cal c_shows_way hr (by decide) (by rfl) (pa_cons (pv 3) (pa_cons (pv 4) (pa_cons (pv 6) pa_nil)))) pe_bl (nomark _)) (pw_or1 (pt_cmpR op_ne (pe_ix ix_tup (pv 6) pe_int (fun _ _ => rfl)) (pe_ix ix_list (pe_lst (pa_cons pe_str (pa_cons pe_str pa_nil))) (pe_callTy call_int1 (by rfl) G.int PyProof.Rows.boot_int (pa_cons (pv 5) pa_nil)) (fun _ _ => rfl)) (nomark _)))))
            (pss_one (ps_ret pe_bl))
            pss_nil)
          (pss_one (ps_if (pt_not (pt_val (pe_cal c_l_paper_right hr (by decide) (by rfl) (pa_cons (pv 2) (pa_cons (pv 3) (pa_cons (pv 4) (pa_cons (pv 6) pa_nil)))))))
            (pss_one (ps_ret pe_bl))
            pss_nil))) ?wb))
          pss_nil))) ?wa)))))
      (pss_one (ps_ret pe_bl))), ?_⟩
    case wa =>
      rintro D σ H0 ⟨p, n, k, x1, x6, rfl, hd, k1, kn, n26, q0⟩
      refine ⟨_, rfl, _, rfl, n, k, rfl, _, rfl, rfl, _, rfl, (if_neg (by simp)).mpr ⟨_, rfl, _, rfl, ?_⟩⟩
      by_cases cb : k < n ∨ n ≤ 2
      · rw [decide_eq_true cb]
        refine iteF ⟨_, rfl, _, rfl, n, k, rfl, kn, n26, _, _, rfl, rfl, _, rfl, ite2 (fun z => ?_) fun z => q0 _ _ _ _ _ _ _ (same_b (same_refl _))⟩
        have few := of_decide_eq_true z
        have sm : Small n k := ⟨k1, kn, n26, by omega⟩
        refine ⟨_, rfl, _, rfl, n, k, rfl, n26, .inl ⟨cb, sm, fun v R H1 s1 ok ro pr => ?_⟩⟩
        exact ⟨p, n, k, x1, v, by rw [decide_eq_true cb]; rfl, hd.same s1, k1, kn, n26, .inl ⟨cb, sm, R, ok, ro, pr⟩, fun y1 y2 y3 y4 y5 y6 H' b => q0 _ _ _ _ _ _ _ ((same_b s1).trans b)⟩
      · rw [decide_eq_false cb]
        refine iteT ⟨_, rfl, _, rfl, n, k, rfl, n26, .inr ⟨cb, fun v H1 s1 pn => ?_⟩⟩
        exact ⟨p, n, k, x1, v, by rw [decide_eq_false cb]; rfl, hd.same s1, k1, kn, n26, .inr ⟨cb, pn⟩, fun y1 y2 y3 y4 y5 y6 H' b => q0 _ _ _ _ _ _ _ ((same_b s1).trans b)⟩
    case wb =>
      rintro D σ H0 ⟨p, n, k, x1, v, rfl, hd, k1, kn, n26, pap, q0⟩
      have two : (2 : Nat) ≤ sizeLine := by decide
      rcases id pap with ⟨cb, sm, R, ok, ro, a, t, rfl, ha, it⟩ | ⟨cb, a, t, u, rfl, ha, it, iu⟩
      · refine ⟨_, rfl, _, rfl, _, rfl, n, k, a, rfl, n26, .inl ⟨t, R, ha, it, shown_round ok kn ro, fun H1 s1 => ?_⟩⟩
        rw [decide_eq_true ro.length]
        have at0 : atI [V.str "row", t] 0 = some (.str "row") := rfl
        refine ⟨true, true, rfl, rfl, _, rfl, (if_neg (by simp)).mpr ⟨_, rfl, a, _, 0, _, rfl, rfl, .inl (.inl (s1 _ _ ha)), at0, two, fun l2 hl2 => ⟨_, rfl, .inr ⟨_, rfl, ?_⟩⟩⟩⟩
        rw [decide_eq_true cb]
        refine ⟨l2, _, 1, .str "row", rfl, rfl, .inl (.inl upd_same), rfl, rfl, _, rfl, ?_⟩
        refine (if_neg (show ¬ (!decide (V.str ("row" : Str) = V.str ("row" : Str))) = true by decide)).mpr ?_
        have s2 := same_trans s1 (same_new (o := .lst [.str "none", .str "row"]) hl2)
        refine ⟨_, rfl, _, rfl, _, rfl, _, rfl, p, n, k, 3, _, rfl, hd.same s2, by decide, k1, kn, n26, .inl ⟨cb, sm, R, ok, ro, a, t, rfl, s2 _ _ ha, it.same s2⟩, fun H' b => ⟨true, rfl, iteF ?_⟩⟩
        exact q0 _ _ _ _ _ _ _ ((same_b s2).trans b)
      · have ekn : k = n := by omega
        subst ekn
        refine ⟨_, rfl, _, rfl, _, rfl, k, k, a, rfl, n26, .inr ⟨t, u, upto k, swapped k, ha, it, iu, fun z => absurd rfl z, fun _ => ⟨upto_ch k, swapped_ch (by omega), k1, fun c' d' H1 s1 lc ld => ?_⟩⟩⟩
        rw [decide_eq_true (loops_unlike (by omega) lc ld)]
        have at0 : atI [V.str "none", t, u] 0 = some (.str "none") := rfl
        refine ⟨true, true, rfl, rfl, _, rfl, (if_neg (by simp)).mpr ⟨_, rfl, a, _, 0, _, rfl, rfl, .inl (.inl (s1 _ _ ha)), at0, two, fun l2 hl2 => ⟨_, rfl, .inr ⟨_, rfl, ?_⟩⟩⟩⟩
        rw [decide_eq_false cb]
        refine ⟨l2, _, 0, .str "none", rfl, rfl, .inl (.inl upd_same), rfl, rfl, _, rfl, ?_⟩
        refine (if_neg (show ¬ (!decide (V.str ("none" : Str) = V.str ("none" : Str))) = true by decide)).mpr ?_
        have s2 := same_trans s1 (same_new (o := .lst [.str "none", .str "row"]) hl2)
        refine ⟨_, rfl, _, rfl, _, rfl, _, rfl, p, k, k, 3, _, rfl, hd.same s2, by decide, k1, kn, n26, .inr ⟨cb, a, t, u, rfl, s2 _ _ ha, it.same s2, iu.same s2⟩, fun H' b => ⟨true, rfl, iteF ?_⟩⟩
        exact q0 _ _ _ _ _ _ _ ((same_b s2).trans b)
    refine ⟨_, rfl, _, rfl, l, _, rfl, hl, fun l1 hl1 => ?_⟩
    have lc : (cutV (ns.map V.int) none (some 3)).length ≤ 3 := by
      rw [cut_ints ns none (some 3) rfl rfl, List.length_map, List.length_take]
      show min (_ - 0) _ ≤ 3
      have z : HT.sIx ns.length ns.length (some ((3 : Nat) : Int)) ≤ 3 := by rw [HT.sIx_nat]; omega
      have z' : HT.sIx ns.length ns.length (some 3) ≤ 3 := z
      omega
    have hl' : SqL K (upd H l1 (.lst (cutV (ns.map V.int) none (some 3)))) l (ns.map V.int) := sq_b (p := l1) hl hl1 (same_b (same_new hl1))
    refine ⟨l1, _, rfl, .inr upd_same, _, _, rfl, rfl, _, rfl, by omega, by omega, for_range (n := 1 + (cutV (ns.map V.int) none (some 3)).length) (fun i σ H' => ∃ y1 y2 y3 y4 y5 y6, σ = [some (.ref l), y1, y2, y3, y4, y5, y6] ∧ SqL K H' l (ns.map V.int)) ⟨none, none, none, none, none, none, rfl, hl'⟩ (fun i σ H' hi pp => ?_) fun σ H' pp => ?_⟩
    · obtain ⟨y1, y2, y3, y4, y5, y6, rfl, hq⟩ := pp
      have e0 : (0 : Int) + (i : Int) = (i : Int) := Int.zero_add _
      refine ⟨_, rfl, _, rfl, l, ns, i, by rw [e0]; rfl, hq, by omega, fun p H1 s1 np h1 => ?_⟩
      refine ⟨_, rfl, p, 0, rfl, h1, by decide, fun t n k H2 b2 h2 k1 kn n26 ht => ⟨t, _, rfl, .inl (.inl ht), rfl, _, _, rfl, _, _, rfl, rfl, ?_⟩⟩
      have sb2 : SameB p H' H2 := (same_b s1).trans b2
      have step : ∀ y1 y2 y3 y4 y5 y6 H3, SameB p H2 H3 → ∃ z1 z2 z3 z4 z5 z6, [some (V.ref l), y1, y2, y3, y4, y5, y6] = [some (.ref l), z1, z2, z3, z4, z5, z6] ∧ SqL K H3 l (ns.map V.int) :=
        fun y1 y2 y3 y4 y5 y6 H3 b3 => ⟨y1, y2, y3, y4, y5, y6, rfl, sq_b hq np (sb2.trans b3)⟩
      refine ⟨_, rfl, _, rfl, _, _, rfl, rfl, _, rfl, ?_⟩
      by_cases c1 : k < n
      · refine (if_pos (decide_eq_true (Int.ofNat_lt.mpr c1))).mpr ?_
        exact ⟨p, n, k, _, _, by rw [decide_eq_true (Or.inl c1)]; rfl, h2, k1, kn, n26, step⟩
      · refine (if_neg (fun z => c1 (Int.ofNat_lt.mp (of_decide_eq_true z)))).mpr ⟨_, rfl, _, _, rfl, rfl, ?_⟩
        have e3 : decide ((n : Int) < 3) = decide (k < n ∨ n ≤ 2) := decide_eq_decide.mpr (by omega)
        exact ⟨p, n, k, _, _, by rw [← e3]; rfl, h2, k1, kn, n26, step⟩
    · obtain ⟨y1, y2, y3, y4, y5, y6, rfl, hq⟩ := pp
      exact q H'
end
end WR

-- part: WREnd
set_option Elab.async false
set_option linter.all false
set_option maxRecDepth 100000
set_option maxHeartbeats 4000000
/-! The end: what the top has written, in terms of the walk. -/
namespace WR
open PySem PySem.Spec PyProof.Rows L2
/-- a def without defaults, by the name that the text calls -/
structure DefAt (K : PySem.W.Frag) (n x qual : Str) (st : Stmt) : Prop where
  ex : ∃ (f : Addr) (fd : FuncData), PySem.W.nsIn K mainGlobals n = some (some (.ref f)) ∧ FunS K x qual st [] f fd
/-- a method of the class at C -/
structure MetAt (K : PySem.W.Frag) (C : Addr) (m qual : Str) (st : Stmt) (dvs : List V) : Prop where
  ex : ∃ (f : Addr) (fd : FuncData), Meth K C m f ∧ FunS K m qual st dvs f fd
theorem def_at {K : PySem.W.Frag} {h : Heap} (X : K.In h) {n x qual : Str} {st : Stmt} {f : Addr} {oc : Value} {od an : Option Addr} {osl : Array (Option Value)} {kV doc pm cdv ct : Value} (a : PySem.W.nsIn K mainGlobals n = some (some (.ref f)))
    (l : K.lookup f = some ⟨oc, od, .func (PySem.W.fnOf x qual (defArgs st) (defBody st) (defScope st) .none kV doc pm an cdv ct), osl⟩) (c : PySem.W.codeIn K cdv qual = true) (k : PySem.W.keepIn K (.ref f) = true) : DefAt K n x qual st :=
  ⟨f, _, a, ⟨oc, od, .none, kV, doc, pm, an, cdv, ct, osl, rfl, l, c, .inl ⟨rfl, rfl⟩, .inl rfl⟩, k⟩
theorem met_at {K : PySem.W.Frag} {h : Heap} (X : K.In h) {C : Addr} {x qual : Str} {st : Stmt} {f : Addr} {oc : Value} {od an : Option Addr} {osl : Array (Option Value)} {kV doc pm cdv ct : Value} (a : PySem.W.findIn K (.ref C) x = some (some (.ref f))) (i : PySem.W.isFn K (.ref f) = true)
    (l : K.lookup f = some ⟨oc, od, .func (PySem.W.fnOf x qual (defArgs st) (defBody st) (defScope st) .none kV doc pm an cdv ct), osl⟩) (c : PySem.W.codeIn K cdv qual = true) (k : PySem.W.keepIn K (.ref f) = true) : MetAt K C x qual st [] :=
  ⟨f, _, ⟨a, i, k⟩, ⟨oc, od, .none, kV, doc, pm, an, cdv, ct, osl, rfl, l, c, .inl ⟨rfl, rfl⟩, .inl rfl⟩, k⟩
/-- .. whose one default is None -/
theorem met_dat {K : PySem.W.Frag} {h : Heap} (X : K.In h) {C T : Addr} {o : Obj} {n : Nat} {x qual : Str} {st : Stmt} {f : Addr} {oc : Value} {od an : Option Addr} {osl : Array (Option Value)} {kV doc pm cdv ct : Value} (a : PySem.W.findIn K (.ref C) x = some (some (.ref f))) (i : PySem.W.isFn K (.ref f) = true)
    (l : K.lookup f = some ⟨oc, od, .func (PySem.W.fnOf x qual (defArgs st) (defBody st) (defScope st) (.ref T) kV doc pm an cdv ct), osl⟩) (c : PySem.W.codeIn K cdv qual = true) (k : PySem.W.keepIn K (.ref f) = true) (lT : K.lookup T = some o) (dT : o.data = .seq #[.none] n) : MetAt K C x qual st [.non] :=
  ⟨f, _, ⟨a, i, k⟩, ⟨oc, od, .ref T, kV, doc, pm, an, cdv, ct, osl, rfl, l, c, .inr ⟨nofun, T, o, [.none], n, rfl, lT, dT, .cons rfl .nil⟩, .inl rfl⟩, k⟩
theorem binds_d {K : PySem.W.Frag} {x qual : Str} {st : Stmt} {ps : List Str} {f : Addr} {fd : FuncData} (F : FunS K x qual st [.non] f fd)
    (h : ∀ (T : Addr) (kV doc pm : Value) (an : Option Addr) (cdv ct : Value) (us its : List Value), us.length = ps.length → its.length = 1 →
      ∃ k, bindArgs (PySem.W.fnOf x qual (defArgs st) (defBody st) (defScope st) (.ref T) kV doc pm an cdv ct) ⟨us, []⟩ = seqItems? (.ref T) >>= k ∧ k (some its.toArray) = pure (ps.zip (us ++ its.drop 1))) : Binds K fd ps [] := by
  obtain ⟨ds, r, b⟩ := F.binds1 (ps := ps) ps.length 1 nofun rfl h
  cases r
  exact b
theorem kit_self (K : PySem.W.Frag) (C : Addr) : PySem.W.kitOne K (.ref C) (.ref C) = some true := by
  unfold PySem.W.kitOne
  rw [if_pos (by simp)]
theorem exm_at {K : PySem.W.Frag} {E : Addr} (h1 : PySem.W.subIn K (.ref E) (.type "BaseException") = some true) (h2 : PySem.W.isClsIn K E = true) (h3 : PySem.W.typeIn K (.ref E) = some (.type "type"))
    (h4 : PySem.W.subIn K (.ref E) (.ref E) = some true) : PySem.W.exmOne K (.ref E) (.ref E) = some true := by
  unfold PySem.W.exmOne PySem.W.kitCls
  have z : (PySem.W.clsIn K E).isSome = true := h2
  simp [h1, z, h3, h4]
theorem law_binds {K : PySem.W.Frag} {f : Addr} {fd : FuncData} (F : FunS K "law" "law" s_law [] f fd) : ∀ (s : Shared) (v : Value), BindsTo s fd ⟨[v], []⟩ [("_law_script", v)] := by
  obtain ⟨oc, od, dV, kV, doc, pm, an, cdv, ct, osl, rfl, lk, hcd, hD, hK⟩ := F.ex
  rcases hD with ⟨_, rfl⟩ | ⟨e, _⟩
  · exact fun s v => .of_eq rfl
  · exact absurd rfl e
theorem all_mk {l : PySem.W.OpenLaw} {w : World} {K : PySem.W.Frag} {h : Heap} {mg : Str → Option Value} {fa C CP CN CW : Addr} {tM tL tH : Tok}
    (X : K.In h) (G0 : h.Ns mainGlobals mg) (hfa : mg "law" = some (.ref fa))
    (aC : PySem.W.nsIn K mainGlobals "Round" = some (some (.ref C))) (aP : PySem.W.nsIn K mainGlobals "Plain" = some (some (.ref CP))) (aN : PySem.W.nsIn K mainGlobals "NoRow" = some (some (.ref CN))) (aW : PySem.W.nsIn K mainGlobals "NoWay" = some (some (.ref CW)))
    (aM : PySem.W.nsIn K mainGlobals "MOST_THINGS" = some (some (.int 26 tM))) (aL : PySem.W.nsIn K mainGlobals "MOST_LOOPS" = some (some (.int 900 tL))) (aH : PySem.W.nsIn K mainGlobals "MOST_CHOICES" = some (some (.int 900 tH)))
    (z_isinstance : PySem.W.nsIn K mainGlobals "isinstance" = some none) (z_int : PySem.W.nsIn K mainGlobals "int" = some none) (z_bool : PySem.W.nsIn K mainGlobals "bool" = some none) (z_tuple : PySem.W.nsIn K mainGlobals "tuple" = some none) (z_str : PySem.W.nsIn K mainGlobals "str" = some none) (z_len : PySem.W.nsIn K mainGlobals "len" = some none) (z_all : PySem.W.nsIn K mainGlobals "all" = some none) (z_any : PySem.W.nsIn K mainGlobals "any" = some none) (z_set : PySem.W.nsIn K mainGlobals "set" = some none) (z_range : PySem.W.nsIn K mainGlobals "range" = some none) (z_list : PySem.W.nsIn K mainGlobals "list" = some none) (z_divmod : PySem.W.nsIn K mainGlobals "divmod" = some none) (z_max : PySem.W.nsIn K mainGlobals "max" = some none) (z_min : PySem.W.nsIn K mainGlobals "min" = some none) (z_dict : PySem.W.nsIn K mainGlobals "dict" = some none) (z_enumerate : PySem.W.nsIn K mainGlobals "enumerate" = some none) (z_sorted : PySem.W.nsIn K mainGlobals "sorted" = some none) (z_abs : PySem.W.nsIn K mainGlobals "abs" = some none)
    (T : ClsOk K C) (TP : ClsOk K CP) (IC : IsC K C) (ICP : IsC K CP) (mC : PySem.W.makesIn K C = true) (kC : PySem.W.keepIn K (.ref C) = true) (mP : PySem.W.makesIn K CP = true) (kP : PySem.W.keepIn K (.ref CP) = true)
    (xW : PySem.W.excIn K CW [.type "ValueError", .type "Exception", .type "BaseException", .type "object"] "ValueError.__new__" = true) (kW : PySem.W.keepIn K (.ref CW) = true) (bW : PySem.W.subIn K (.ref CW) (.type "BaseException") = some true) (tW : PySem.W.typeIn K (.ref CW) = some (.type "type")) (eW : PySem.W.exmOne K (.ref CW) (.ref CW) = some true)
    (d_wholeC : DefAt K "is_whole_choices" "is_whole" "is_whole" sWholeC)
    (d_wholeR : DefAt K "is_whole_rows" "is_whole" "is_whole" sWholeR)
    (d_thing : DefAt K "is_thing" "is_thing" "is_thing" sThing)
    (d_is_choice : DefAt K "is_choice" "is_choice" "is_choice" s_is_choice)
    (d_count : DefAt K "count" "count" "count" s_count)
    (d_choice_at : DefAt K "choice_at" "choice_at" "choice_at" s_choice_at)
    (d_lacking : DefAt K "lacking" "lacking" "lacking" s_lacking)
    (d_turned : DefAt K "turned" "turned" "turned" s_turned)
    (d_is_below : DefAt K "is_below" "is_below" "is_below" s_is_below)
    (d_can_be_row : DefAt K "can_be_row" "can_be_row" "can_be_row" s_can_be_row)
    (d_are_unlike : DefAt K "are_unlike" "are_unlike" "are_unlike" s_are_unlike)
    (d_init : MetAt K C "__init__" "Row.__init__" s_init [])
    (d_initP : MetAt K CP "__init__" "Row.__init__" s_init [])
    (d_wide : MetAt K C "wide" "Row.wide" s_wide [])
    (d_goes_round : MetAt K C "goes_round" "Row.goes_round" s_goes_round [])
    (d_how_many : MetAt K C "how_many" "Row.how_many" s_how_many [])
    (d_window_at : MetAt K C "window_at" "Row.window_at" s_window_at [])
    (d_windows : MetAt K C "windows" "Row.windows" s_windows [.non])
    (d_stands : MetAt K C "stands" "Row.stands" s_stands [.non])
    (d_has_all : MetAt K C "has_all" "Row.has_all" s_has_all [.non])
    (d_waste : MetAt K C "waste" "Row.waste" s_waste [.non])
    (d_just_once : MetAt K C "just_once" "Row.just_once" s_just_once [.non])
    (d_opened : MetAt K C "opened" "Round.opened" s_opened [.non])
    (d_heads : DefAt K "heads" "heads" "heads" s_heads)
    (d_least : DefAt K "least_of_both" "least_of_both" "least_of_both" s_least_of_both)
    (d_shared : DefAt K "shared" "shared" "shared" s_shared)
    (d_begun_at : DefAt K "begun_at" "begun_at" "begun_at" s_begun_at)
    (d_joined : DefAt K "joined" "joined" "joined" s_joined)
    (d_parted : DefAt K "parted" "parted" "parted" s_parted)
    (d_loop_of : DefAt K "loop_of" "loop_of" "loop_of" s_loop_of)
    (d_loops : DefAt K "loops" "loops" "loops" s_loops)
    (d_turn_rows : DefAt K "turn_rows" "turn_rows" "turn_rows" s_turn_rows)
    (d_can_be : DefAt K "can_be" "can_be" "can_be" s_can_be)
    (d_meeting : DefAt K "meeting" "meeting" "meeting" s_meeting)
    (d_round_row : DefAt K "round_row" "round_row" "round_row" s_round_row)
    (d_plain_row : DefAt K "plain_row" "plain_row" "plain_row" s_plain_row)
    (d_way_paper : DefAt K "way_paper" "way_paper" "way_paper" s_way_paper)
    (d_orders_of : DefAt K "orders_of" "orders_of" "orders_of" s_orders_of)
    (d_shows_once : DefAt K "shows_once" "shows_once" "shows_once" s_shows_once)
    (d_shows_way : DefAt K "shows_way" "shows_way" "shows_way" s_shows_way)
    (d_l_hand : DefAt K "_law_hand" "_law_hand" "_law_hand" s_l_hand)
    (d_l_take : DefAt K "_law_take" "_law_take" "_law_take" s_l_take)
    (d_l_sizes : DefAt K "_law_sizes" "_law_sizes" "_law_sizes" s_l_sizes)
    (d_l_windows : DefAt K "_law_windows" "_law_windows" "_law_windows" s_l_windows)
    (d_l_all_once : DefAt K "_law_all_once" "_law_all_once" "_law_all_once" s_l_all_once)
    (d_l_parts : DefAt K "_law_parts" "_law_parts" "_law_parts" s_l_parts)
    (d_l_turned : DefAt K "_law_turned" "_law_turned" "_law_turned" s_l_turned)
    (d_l_joined_right : DefAt K "_law_joined_right" "_law_joined_right" "_law_joined_right" s_l_joined_right)
    (d_l_row_right : DefAt K "_law_row_right" "_law_row_right" "_law_row_right" s_l_row_right)
    (d_l_none_right : DefAt K "_law_none_right" "_law_none_right" "_law_none_right" s_l_none_right)
    (d_l_paper_right : DefAt K "_law_paper_right" "_law_paper_right" "_law_paper_right" s_l_paper_right)
    (d_law : DefAt K "law" "law" "law" s_law) :
    ∃ fd : FuncData, (∀ (s : Shared) (v : Value), BindsTo s fd ⟨[v], []⟩ [("_law_script", v)]) ∧ ∀ base : Heap, K.In base → base.Ns mainGlobals mg → FnOk l.prog w K mg base CX0 10 fa fd ["_law_script"] (spLaw K) := by
  have G : Glb mg := ⟨PySem.W.mg_none_of X G0 z_isinstance, PySem.W.mg_none_of X G0 z_int, PySem.W.mg_none_of X G0 z_bool, PySem.W.mg_none_of X G0 z_tuple, PySem.W.mg_none_of X G0 z_str, PySem.W.mg_none_of X G0 z_len, PySem.W.mg_none_of X G0 z_all, PySem.W.mg_none_of X G0 z_any, PySem.W.mg_none_of X G0 z_set, PySem.W.mg_none_of X G0 z_range, PySem.W.mg_none_of X G0 z_list, PySem.W.mg_none_of X G0 z_divmod, PySem.W.mg_none_of X G0 z_max, PySem.W.mg_none_of X G0 z_min, PySem.W.mg_none_of X G0 z_dict, PySem.W.mg_none_of X G0 z_enumerate, PySem.W.mg_none_of X G0 z_sorted, PySem.W.mg_none_of X G0 z_abs⟩
  have gR := PySem.W.mg_of X G0 aC
  have gP := PySem.W.mg_of X G0 aP
  have gE := PySem.W.mg_of X G0 aN
  have gM := PySem.W.mg_of X G0 aM
  have gL := PySem.W.mg_of X G0 aL
  have gC := PySem.W.mg_of X G0 aH
  have N : NoW K mg CW CW := ⟨PySem.W.mg_of X G0 aW, xW, kW, bW, tW, eW⟩
  obtain ⟨f_wholeC, fd_wholeC, a_wholeC, F_wholeC⟩ := d_wholeC.ex
  obtain ⟨f_wholeR, fd_wholeR, a_wholeR, F_wholeR⟩ := d_wholeR.ex
  obtain ⟨f_thing, fd_thing, a_thing, F_thing⟩ := d_thing.ex
  obtain ⟨f_is_choice, fd_is_choice, a_is_choice, F_is_choice⟩ := d_is_choice.ex
  obtain ⟨f_count, fd_count, a_count, F_count⟩ := d_count.ex
  obtain ⟨f_choice_at, fd_choice_at, a_choice_at, F_choice_at⟩ := d_choice_at.ex
  obtain ⟨f_lacking, fd_lacking, a_lacking, F_lacking⟩ := d_lacking.ex
  obtain ⟨f_turned, fd_turned, a_turned, F_turned⟩ := d_turned.ex
  obtain ⟨f_is_below, fd_is_below, a_is_below, F_is_below⟩ := d_is_below.ex
  obtain ⟨f_can_be_row, fd_can_be_row, a_can_be_row, F_can_be_row⟩ := d_can_be_row.ex
  obtain ⟨f_are_unlike, fd_are_unlike, a_are_unlike, F_are_unlike⟩ := d_are_unlike.ex
  obtain ⟨f_init, fd_init, a_init, F_init⟩ := d_init.ex
  obtain ⟨f_initP, fd_initP, a_initP, F_initP⟩ := d_initP.ex
  obtain ⟨f_wide, fd_wide, a_wide, F_wide⟩ := d_wide.ex
  obtain ⟨f_goes_round, fd_goes_round, a_goes_round, F_goes_round⟩ := d_goes_round.ex
  obtain ⟨f_how_many, fd_how_many, a_how_many, F_how_many⟩ := d_how_many.ex
  obtain ⟨f_window_at, fd_window_at, a_window_at, F_window_at⟩ := d_window_at.ex
  obtain ⟨f_windows, fd_windows, a_windows, F_windows⟩ := d_windows.ex
  obtain ⟨f_stands, fd_stands, a_stands, F_stands⟩ := d_stands.ex
  obtain ⟨f_has_all, fd_has_all, a_has_all, F_has_all⟩ := d_has_all.ex
  obtain ⟨f_waste, fd_waste, a_waste, F_waste⟩ := d_waste.ex
  obtain ⟨f_just_once, fd_just_once, a_just_once, F_just_once⟩ := d_just_once.ex
  obtain ⟨f_opened, fd_opened, a_opened, F_opened⟩ := d_opened.ex
  obtain ⟨f_heads, fd_heads, a_heads, F_heads⟩ := d_heads.ex
  obtain ⟨f_least, fd_least, a_least, F_least⟩ := d_least.ex
  obtain ⟨f_shared, fd_shared, a_shared, F_shared⟩ := d_shared.ex
  obtain ⟨f_begun_at, fd_begun_at, a_begun_at, F_begun_at⟩ := d_begun_at.ex
  obtain ⟨f_joined, fd_joined, a_joined, F_joined⟩ := d_joined.ex
  obtain ⟨f_parted, fd_parted, a_parted, F_parted⟩ := d_parted.ex
  obtain ⟨f_loop_of, fd_loop_of, a_loop_of, F_loop_of⟩ := d_loop_of.ex
  obtain ⟨f_loops, fd_loops, a_loops, F_loops⟩ := d_loops.ex
  obtain ⟨f_turn_rows, fd_turn_rows, a_turn_rows, F_turn_rows⟩ := d_turn_rows.ex
  obtain ⟨f_can_be, fd_can_be, a_can_be, F_can_be⟩ := d_can_be.ex
  obtain ⟨f_meeting, fd_meeting, a_meeting, F_meeting⟩ := d_meeting.ex
  obtain ⟨f_round_row, fd_round_row, a_round_row, F_round_row⟩ := d_round_row.ex
  obtain ⟨f_plain_row, fd_plain_row, a_plain_row, F_plain_row⟩ := d_plain_row.ex
  obtain ⟨f_way_paper, fd_way_paper, a_way_paper, F_way_paper⟩ := d_way_paper.ex
  obtain ⟨f_orders_of, fd_orders_of, a_orders_of, F_orders_of⟩ := d_orders_of.ex
  obtain ⟨f_shows_once, fd_shows_once, a_shows_once, F_shows_once⟩ := d_shows_once.ex
  obtain ⟨f_shows_way, fd_shows_way, a_shows_way, F_shows_way⟩ := d_shows_way.ex
  obtain ⟨f_l_hand, fd_l_hand, a_l_hand, F_l_hand⟩ := d_l_hand.ex
  obtain ⟨f_l_take, fd_l_take, a_l_take, F_l_take⟩ := d_l_take.ex
  obtain ⟨f_l_sizes, fd_l_sizes, a_l_sizes, F_l_sizes⟩ := d_l_sizes.ex
  obtain ⟨f_l_windows, fd_l_windows, a_l_windows, F_l_windows⟩ := d_l_windows.ex
  obtain ⟨f_l_all_once, fd_l_all_once, a_l_all_once, F_l_all_once⟩ := d_l_all_once.ex
  obtain ⟨f_l_parts, fd_l_parts, a_l_parts, F_l_parts⟩ := d_l_parts.ex
  obtain ⟨f_l_turned, fd_l_turned, a_l_turned, F_l_turned⟩ := d_l_turned.ex
  obtain ⟨f_l_joined_right, fd_l_joined_right, a_l_joined_right, F_l_joined_right⟩ := d_l_joined_right.ex
  obtain ⟨f_l_row_right, fd_l_row_right, a_l_row_right, F_l_row_right⟩ := d_l_row_right.ex
  obtain ⟨f_l_none_right, fd_l_none_right, a_l_none_right, F_l_none_right⟩ := d_l_none_right.ex
  obtain ⟨f_l_paper_right, fd_l_paper_right, a_l_paper_right, F_l_paper_right⟩ := d_l_paper_right.ex
  obtain ⟨f_law, fd_law, a_law, F_law⟩ := d_law.ex
  have e0 := hfa.symm.trans (PySem.W.mg_of X G0 a_law)
  cases e0
  have b_wholeC : Binds K fd_wholeC ["thing"] [] := FunD.bindsN F_wholeC (ps := ["thing"]) fun _ _ _ _ _ _ us hl => match us, hl with | [_], _ => rfl
  have b_wholeR : Binds K fd_wholeR ["thing"] [] := FunD.bindsN F_wholeR (ps := ["thing"]) fun _ _ _ _ _ _ us hl => match us, hl with | [_], _ => rfl
  have b_thing : Binds K fd_thing ["n", "thing"] [] := FunD.bindsN F_thing (ps := ["n", "thing"]) fun _ _ _ _ _ _ us hl => match us, hl with | [_, _], _ => rfl
  have b_is_choice : Binds K fd_is_choice ["n", "k", "thing"] [] := FunD.bindsN F_is_choice (ps := ["n", "k", "thing"]) fun _ _ _ _ _ _ us hl => match us, hl with | [_, _, _], _ => rfl
  have b_count : Binds K fd_count ["n", "k"] [] := FunD.bindsN F_count (ps := ["n", "k"]) fun _ _ _ _ _ _ us hl => match us, hl with | [_, _], _ => rfl
  have b_choice_at : Binds K fd_choice_at ["n", "k", "number"] [] := FunD.bindsN F_choice_at (ps := ["n", "k", "number"]) fun _ _ _ _ _ _ us hl => match us, hl with | [_, _, _], _ => rfl
  have b_lacking : Binds K fd_lacking ["n", "choice"] [] := FunD.bindsN F_lacking (ps := ["n", "choice"]) fun _ _ _ _ _ _ us hl => match us, hl with | [_, _], _ => rfl
  have b_turned : Binds K fd_turned ["things", "by"] [] := FunD.bindsN F_turned (ps := ["things", "by"]) fun _ _ _ _ _ _ us hl => match us, hl with | [_, _], _ => rfl
  have b_is_below : Binds K fd_is_below ["thing", "many"] [] := FunD.bindsN F_is_below (ps := ["thing", "many"]) fun _ _ _ _ _ _ us hl => match us, hl with | [_, _], _ => rfl
  have b_can_be_row : Binds K fd_can_be_row ["n", "things"] [] := FunD.bindsN F_can_be_row (ps := ["n", "things"]) fun _ _ _ _ _ _ us hl => match us, hl with | [_, _], _ => rfl
  have b_are_unlike : Binds K fd_are_unlike ["window"] [] := FunD.bindsN F_are_unlike (ps := ["window"]) fun _ _ _ _ _ _ us hl => match us, hl with | [_], _ => rfl
  have b_init : Binds K fd_init ["self", "n", "things"] [] := FunD.bindsN F_init (ps := ["self", "n", "things"]) fun _ _ _ _ _ _ us hl => match us, hl with | [_, _, _], _ => rfl
  have b_wide : Binds K fd_wide ["self", "k"] [] := FunD.bindsN F_wide (ps := ["self", "k"]) fun _ _ _ _ _ _ us hl => match us, hl with | [_, _], _ => rfl
  have b_goes_round : Binds K fd_goes_round ["self"] [] := FunD.bindsN F_goes_round (ps := ["self"]) fun _ _ _ _ _ _ us hl => match us, hl with | [_], _ => rfl
  have b_how_many : Binds K fd_how_many ["self", "k"] [] := FunD.bindsN F_how_many (ps := ["self", "k"]) fun _ _ _ _ _ _ us hl => match us, hl with | [_, _], _ => rfl
  have b_window_at : Binds K fd_window_at ["self", "place", "k"] [] := FunD.bindsN F_window_at (ps := ["self", "place", "k"]) fun _ _ _ _ _ _ us hl => match us, hl with | [_, _, _], _ => rfl
  have b_windows : Binds K fd_windows ["self", "k"] [] := binds_d F_windows (fun _ _ _ _ _ _ _ us its hl hi => match us, its, hl, hi with | [_, _], [_], _, _ => ⟨_, rfl, rfl⟩)
  have b_stands : Binds K fd_stands ["self", "k"] [] := binds_d F_stands (fun _ _ _ _ _ _ _ us its hl hi => match us, its, hl, hi with | [_, _], [_], _, _ => ⟨_, rfl, rfl⟩)
  have b_has_all : Binds K fd_has_all ["self", "k"] [] := binds_d F_has_all (fun _ _ _ _ _ _ _ us its hl hi => match us, its, hl, hi with | [_, _], [_], _, _ => ⟨_, rfl, rfl⟩)
  have b_waste : Binds K fd_waste ["self", "k"] [] := binds_d F_waste (fun _ _ _ _ _ _ _ us its hl hi => match us, its, hl, hi with | [_, _], [_], _, _ => ⟨_, rfl, rfl⟩)
  have b_just_once : Binds K fd_just_once ["self", "k"] [] := binds_d F_just_once (fun _ _ _ _ _ _ _ us its hl hi => match us, its, hl, hi with | [_, _], [_], _, _ => ⟨_, rfl, rfl⟩)
  have b_opened : Binds K fd_opened ["self", "place", "k"] [] := binds_d F_opened (fun _ _ _ _ _ _ _ us its hl hi => match us, its, hl, hi with | [_, _, _], [_], _, _ => ⟨_, rfl, rfl⟩)
  have b_heads : Binds K fd_heads ["row", "k"] [] := FunD.bindsN F_heads (ps := ["row", "k"]) fun _ _ _ _ _ _ us hl => match us, hl with | [_, _], _ => rfl
  have b_least : Binds K fd_least ["some", "others"] [] := FunD.bindsN F_least (ps := ["some", "others"]) fun _ _ _ _ _ _ us hl => match us, hl with | [_, _], _ => rfl
  have b_shared : Binds K fd_shared ["one", "other", "k"] [] := FunD.bindsN F_shared (ps := ["one", "other", "k"]) fun _ _ _ _ _ _ us hl => match us, hl with | [_, _, _], _ => rfl
  have b_begun_at : Binds K fd_begun_at ["row", "place"] [] := FunD.bindsN F_begun_at (ps := ["row", "place"]) fun _ _ _ _ _ _ us hl => match us, hl with | [_, _], _ => rfl
  have b_joined : Binds K fd_joined ["one", "other", "k"] [] := FunD.bindsN F_joined (ps := ["one", "other", "k"]) fun _ _ _ _ _ _ us hl => match us, hl with | [_, _, _], _ => rfl
  have b_parted : Binds K fd_parted ["row", "k", "place", "behind"] [] := FunD.bindsN F_parted (ps := ["row", "k", "place", "behind"]) fun _ _ _ _ _ _ us hl => match us, hl with | [_, _, _, _], _ => rfl
  have b_loop_of : Binds K fd_loop_of ["choice"] [] := FunD.bindsN F_loop_of (ps := ["choice"]) fun _ _ _ _ _ _ us hl => match us, hl with | [_], _ => rfl
  have b_loops : Binds K fd_loops ["n", "k"] [] := FunD.bindsN F_loops (ps := ["n", "k"]) fun _ _ _ _ _ _ us hl => match us, hl with | [_, _], _ => rfl
  have b_turn_rows : Binds K fd_turn_rows ["n", "k"] [] := FunD.bindsN F_turn_rows (ps := ["n", "k"]) fun _ _ _ _ _ _ us hl => match us, hl with | [_, _], _ => rfl
  have b_can_be : Binds K fd_can_be ["n", "k"] [] := FunD.bindsN F_can_be (ps := ["n", "k"]) fun _ _ _ _ _ _ us hl => match us, hl with | [_, _], _ => rfl
  have b_meeting : Binds K fd_meeting ["row", "others", "k"] [] := FunD.bindsN F_meeting (ps := ["row", "others", "k"]) fun _ _ _ _ _ _ us hl => match us, hl with | [_, _, _], _ => rfl
  have b_round_row : Binds K fd_round_row ["n", "k"] [] := FunD.bindsN F_round_row (ps := ["n", "k"]) fun _ _ _ _ _ _ us hl => match us, hl with | [_, _], _ => rfl
  have b_plain_row : Binds K fd_plain_row ["n", "k"] [] := FunD.bindsN F_plain_row (ps := ["n", "k"]) fun _ _ _ _ _ _ us hl => match us, hl with | [_, _], _ => rfl
  have b_way_paper : Binds K fd_way_paper ["n", "k"] [] := FunD.bindsN F_way_paper (ps := ["n", "k"]) fun _ _ _ _ _ _ us hl => match us, hl with | [_, _], _ => rfl
  have b_orders_of : Binds K fd_orders_of ["row"] [] := FunD.bindsN F_orders_of (ps := ["row"]) fun _ _ _ _ _ _ us hl => match us, hl with | [_], _ => rfl
  have b_shows_once : Binds K fd_shows_once ["n", "k", "things"] [] := FunD.bindsN F_shows_once (ps := ["n", "k", "things"]) fun _ _ _ _ _ _ us hl => match us, hl with | [_, _, _], _ => rfl
  have b_shows_way : Binds K fd_shows_way ["n", "k", "thing"] [] := FunD.bindsN F_shows_way (ps := ["n", "k", "thing"]) fun _ _ _ _ _ _ us hl => match us, hl with | [_, _, _], _ => rfl
  have b_l_hand : Binds K fd_l_hand ["_law_script", "_law_place"] [] := FunD.bindsN F_l_hand (ps := ["_law_script", "_law_place"]) fun _ _ _ _ _ _ us hl => match us, hl with | [_, _], _ => rfl
  have b_l_take : Binds K fd_l_take ["_law_hand_here", "_law_many"] [] := FunD.bindsN F_l_take (ps := ["_law_hand_here", "_law_many"]) fun _ _ _ _ _ _ us hl => match us, hl with | [_, _], _ => rfl
  have b_l_sizes : Binds K fd_l_sizes ["_law_hand_here"] [] := FunD.bindsN F_l_sizes (ps := ["_law_hand_here"]) fun _ _ _ _ _ _ us hl => match us, hl with | [_], _ => rfl
  have b_l_windows : Binds K fd_l_windows ["_law_things", "_law_k", "_law_round_one"] [] := FunD.bindsN F_l_windows (ps := ["_law_things", "_law_k", "_law_round_one"]) fun _ _ _ _ _ _ us hl => match us, hl with | [_, _, _], _ => rfl
  have b_l_all_once : Binds K fd_l_all_once ["_law_windows_here", "_law_n", "_law_k"] [] := FunD.bindsN F_l_all_once (ps := ["_law_windows_here", "_law_n", "_law_k"]) fun _ _ _ _ _ _ us hl => match us, hl with | [_, _, _], _ => rfl
  have b_l_parts : Binds K fd_l_parts ["_law_hand_here", "_law_row", "_law_k"] [] := FunD.bindsN F_l_parts (ps := ["_law_hand_here", "_law_row", "_law_k"]) fun _ _ _ _ _ _ us hl => match us, hl with | [_, _, _], _ => rfl
  have b_l_turned : Binds K fd_l_turned ["_law_hand_here", "_law_row"] [] := FunD.bindsN F_l_turned (ps := ["_law_hand_here", "_law_row"]) fun _ _ _ _ _ _ us hl => match us, hl with | [_, _], _ => rfl
  have b_l_joined_right : Binds K fd_l_joined_right ["_law_one", "_law_other", "_law_k"] [] := FunD.bindsN F_l_joined_right (ps := ["_law_one", "_law_other", "_law_k"]) fun _ _ _ _ _ _ us hl => match us, hl with | [_, _, _], _ => rfl
  have b_l_row_right : Binds K fd_l_row_right ["_law_hand_here", "_law_n", "_law_k", "_law_things"] [] := FunD.bindsN F_l_row_right (ps := ["_law_hand_here", "_law_n", "_law_k", "_law_things"]) fun _ _ _ _ _ _ us hl => match us, hl with | [_, _, _, _], _ => rfl
  have b_l_none_right : Binds K fd_l_none_right ["_law_n", "_law_paper"] [] := FunD.bindsN F_l_none_right (ps := ["_law_n", "_law_paper"]) fun _ _ _ _ _ _ us hl => match us, hl with | [_, _], _ => rfl
  have b_l_paper_right : Binds K fd_l_paper_right ["_law_hand_here", "_law_n", "_law_k", "_law_paper"] [] := FunD.bindsN F_l_paper_right (ps := ["_law_hand_here", "_law_n", "_law_k", "_law_paper"]) fun _ _ _ _ _ _ us hl => match us, hl with | [_, _, _, _], _ => rfl
  have b_initP : Binds K fd_initP ["self", "n", "things"] [] := FunD.bindsN F_initP (ps := ["self", "n", "things"]) fun _ _ _ _ _ _ us hl => match us, hl with | [_, _, _], _ => rfl
  refine ⟨fd_law, law_binds F_law, fun base kb nb => ?_⟩
  have o_wholeC : FnOk l.prog w K mg base CX0 1 f_wholeC fd_wholeC ["thing"] spWhole := ok_wholeC G F_wholeC
  have c_is_whole_choices : CalF l.prog w K mg base 1 "is_whole_choices" spWhole := ⟨f_wholeC, fd_wholeC, _, o_wholeC, PySem.W.mg_of X G0 a_wholeC, F_wholeC.kp, b_wholeC⟩
  have o_wholeR : FnOk l.prog w K mg base CX0 1 f_wholeR fd_wholeR ["thing"] spWhole := ok_wholeR G F_wholeR
  have c_is_whole_rows : CalF l.prog w K mg base 1 "is_whole_rows" spWhole := ⟨f_wholeR, fd_wholeR, _, o_wholeR, PySem.W.mg_of X G0 a_wholeR, F_wholeR.kp, b_wholeR⟩
  have o_thing : FnOk l.prog w K mg base CX0 2 f_thing fd_thing ["n", "thing"] spThing := ok_thing F_thing c_is_whole_choices
  have c_is_thing : CalF l.prog w K mg base 2 "is_thing" spThing := ⟨f_thing, fd_thing, _, o_thing, PySem.W.mg_of X G0 a_thing, F_thing.kp, b_thing⟩
  have o_is_choice : FnOk l.prog w K mg base CX0 3 f_is_choice fd_is_choice ["n", "k", "thing"] spIsChoice := ok_is_choice G F_is_choice c_is_thing
  have c_is_choice : CalF l.prog w K mg base 3 "is_choice" spIsChoice := ⟨f_is_choice, fd_is_choice, _, o_is_choice, PySem.W.mg_of X G0 a_is_choice, F_is_choice.kp, b_is_choice⟩
  have o_count : FnOk l.prog w K mg base CX0 1 f_count fd_count ["n", "k"] spCount := ok_count G F_count
  have c_count : CalF l.prog w K mg base 1 "count" spCount := ⟨f_count, fd_count, _, o_count, PySem.W.mg_of X G0 a_count, F_count.kp, b_count⟩
  have o_choice_at : FnOk l.prog w K mg base CX0 2 f_choice_at fd_choice_at ["n", "k", "number"] spChoiceAt := ok_choice_at G F_choice_at c_count
  have c_choice_at : CalF l.prog w K mg base 2 "choice_at" spChoiceAt := ⟨f_choice_at, fd_choice_at, _, o_choice_at, PySem.W.mg_of X G0 a_choice_at, F_choice_at.kp, b_choice_at⟩
  have o_lacking : FnOk l.prog w K mg base CX0 1 f_lacking fd_lacking ["n", "choice"] spLacking := ok_lacking G F_lacking
  have c_lacking : CalF l.prog w K mg base 1 "lacking" spLacking := ⟨f_lacking, fd_lacking, _, o_lacking, PySem.W.mg_of X G0 a_lacking, F_lacking.kp, b_lacking⟩
  have o_turned : FnOk l.prog w K mg base CX0 1 f_turned fd_turned ["things", "by"] spTurned := ok_turned G F_turned
  have c_turned : CalF l.prog w K mg base 1 "turned" spTurned := ⟨f_turned, fd_turned, _, o_turned, PySem.W.mg_of X G0 a_turned, F_turned.kp, b_turned⟩
  have o_is_below : FnOk l.prog w K mg base CX0 2 f_is_below fd_is_below ["thing", "many"] spBelow := ok_is_below F_is_below c_is_whole_rows
  have c_is_below : CalF l.prog w K mg base 2 "is_below" spBelow := ⟨f_is_below, fd_is_below, _, o_is_below, PySem.W.mg_of X G0 a_is_below, F_is_below.kp, b_is_below⟩
  have o_can_be_row : FnOk l.prog w K mg base CX0 3 f_can_be_row fd_can_be_row ["n", "things"] spCanRow := ok_can_be_row G gM F_can_be_row c_is_whole_rows c_is_below
  have c_can_be_row : CalF l.prog w K mg base 3 "can_be_row" spCanRow := ⟨f_can_be_row, fd_can_be_row, _, o_can_be_row, PySem.W.mg_of X G0 a_can_be_row, F_can_be_row.kp, b_can_be_row⟩
  have o_are_unlike : FnOk l.prog w K mg base CX0 1 f_are_unlike fd_are_unlike ["window"] spUnlike := ok_are_unlike G F_are_unlike
  have c_are_unlike : CalF l.prog w K mg base 1 "are_unlike" spUnlike := ⟨f_are_unlike, fd_are_unlike, _, o_are_unlike, PySem.W.mg_of X G0 a_are_unlike, F_are_unlike.kp, b_are_unlike⟩
  have o_init : FnOk l.prog w K mg base CX0 4 f_init fd_init ["self", "n", "things"] (spInit K) := ok_init F_init c_can_be_row
  have o_initP : FnOk l.prog w K mg base CX0 4 f_initP fd_initP ["self", "n", "things"] (spInit K) := ok_init F_initP c_can_be_row
  have m_Round : MakF l.prog w K mg base 4 "Round" C (spInit K) := ⟨f_init, fd_init, _, o_init, gR, ⟨mC, a_init.at_, a_init.fn, kC⟩, b_init⟩
  have m_Plain : MakF l.prog w K mg base 4 "Plain" CP (spInit K) := ⟨f_initP, fd_initP, _, o_initP, gP, ⟨mP, a_initP.at_, a_initP.fn, kP⟩, b_initP⟩
  have o_wide : FnOk l.prog w K mg base CX0 1 f_wide fd_wide ["self", "k"] spWide := ok_wide F_wide
  have m_wide : MetF l.prog w K mg base 1 C "wide" spWide := ⟨f_wide, fd_wide, _, o_wide, a_wide, b_wide⟩
  have o_goes_round : FnOk l.prog w K mg base CX0 1 f_goes_round fd_goes_round ["self"] spGoes := ok_goes_round F_goes_round
  have m_goes_round : MetF l.prog w K mg base 1 C "goes_round" spGoes := ⟨f_goes_round, fd_goes_round, _, o_goes_round, a_goes_round, b_goes_round⟩
  have o_how_many : FnOk l.prog w K mg base CX0 2 f_how_many fd_how_many ["self", "k"] (spHow C) := ok_how_many G T F_how_many m_goes_round
  have m_how_many : MetF l.prog w K mg base 2 C "how_many" (spHow C) := ⟨f_how_many, fd_how_many, _, o_how_many, a_how_many, b_how_many⟩
  have o_window_at : FnOk l.prog w K mg base CX0 1 f_window_at fd_window_at ["self", "place", "k"] (spWinAt C) := ok_window_at G T F_window_at
  have m_window_at : MetF l.prog w K mg base 1 C "window_at" (spWinAt C) := ⟨f_window_at, fd_window_at, _, o_window_at, a_window_at, b_window_at⟩
  have o_windows : FnOk l.prog w K mg base CX0 3 f_windows fd_windows ["self", "k"] (spWins C) := ok_windows G T F_windows m_wide m_how_many m_window_at
  have m_windows : MetF l.prog w K mg base 3 C "windows" (spWins C) := ⟨f_windows, fd_windows, _, o_windows, a_windows, b_windows⟩
  have o_stands : FnOk l.prog w K mg base CX0 4 f_stands fd_stands ["self", "k"] (spStands C) := ok_stands G T F_stands m_windows c_are_unlike
  have m_stands : MetF l.prog w K mg base 4 C "stands" (spStands C) := ⟨f_stands, fd_stands, _, o_stands, a_stands, b_stands⟩
  have o_has_all : FnOk l.prog w K mg base CX0 5 f_has_all fd_has_all ["self", "k"] (spOnce C (.bl true)) := ok_has_all G T F_has_all m_stands m_wide c_count
  have m_has_all : MetF l.prog w K mg base 5 C "has_all" (spOnce C (.bl true)) := ⟨f_has_all, fd_has_all, _, o_has_all, a_has_all, b_has_all⟩
  have o_waste : FnOk l.prog w K mg base CX0 5 f_waste fd_waste ["self", "k"] (spOnce C (.int 0)) := ok_waste G T F_waste m_stands m_wide m_how_many
  have m_waste : MetF l.prog w K mg base 5 C "waste" (spOnce C (.int 0)) := ⟨f_waste, fd_waste, _, o_waste, a_waste, b_waste⟩
  have o_just_once : FnOk l.prog w K mg base CX0 6 f_just_once fd_just_once ["self", "k"] (spOnce C (.bl true)) := ok_just_once T F_just_once m_has_all m_waste
  have m_just_once : MetF l.prog w K mg base 6 C "just_once" (spOnce C (.bl true)) := ⟨f_just_once, fd_just_once, _, o_just_once, a_just_once, b_just_once⟩
  have o_opened : FnOk l.prog w K mg base CX0 6 f_opened fd_opened ["self", "place", "k"] (spOpened C CP) := ok_opened G T TP F_opened c_is_below m_Plain m_window_at m_wide
  have m_opened : MetF l.prog w K mg base 6 C "opened" (spOpened C CP) := ⟨f_opened, fd_opened, _, o_opened, a_opened, b_opened⟩
  have o_heads : FnOk l.prog w K mg base CX0 4 f_heads fd_heads ["row", "k"] (spHeads C) := ok_heads G T F_heads m_windows
  have c_heads : CalF l.prog w K mg base 4 "heads" (spHeads C) := ⟨f_heads, fd_heads, _, o_heads, PySem.W.mg_of X G0 a_heads, F_heads.kp, b_heads⟩
  have o_least : FnOk l.prog w K mg base CX0 1 f_least fd_least ["some", "others"] spLeast := ok_least G F_least
  have c_least_of_both : CalF l.prog w K mg base 1 "least_of_both" spLeast := ⟨f_least, fd_least, _, o_least, PySem.W.mg_of X G0 a_least, F_least.kp, b_least⟩
  have o_shared : FnOk l.prog w K mg base CX0 5 f_shared fd_shared ["one", "other", "k"] (spShared C) := ok_shared F_shared c_heads c_least_of_both
  have c_shared : CalF l.prog w K mg base 5 "shared" (spShared C) := ⟨f_shared, fd_shared, _, o_shared, PySem.W.mg_of X G0 a_shared, F_shared.kp, b_shared⟩
  have o_begun_at : FnOk l.prog w K mg base CX0 1 f_begun_at fd_begun_at ["row", "place"] (spBegun C) := ok_begun_at T F_begun_at
  have c_begun_at : CalF l.prog w K mg base 1 "begun_at" (spBegun C) := ⟨f_begun_at, fd_begun_at, _, o_begun_at, PySem.W.mg_of X G0 a_begun_at, F_begun_at.kp, b_begun_at⟩
  have o_joined : FnOk l.prog w K mg base CX0 6 f_joined fd_joined ["one", "other", "k"] (spJoined C) := ok_joined T F_joined c_heads c_least_of_both c_begun_at m_Round
  have c_joined : CalF l.prog w K mg base 6 "joined" (spJoined C) := ⟨f_joined, fd_joined, _, o_joined, PySem.W.mg_of X G0 a_joined, F_joined.kp, b_joined⟩
  have o_parted : FnOk l.prog w K mg base CX0 6 f_parted fd_parted ["row", "k", "place", "behind"] (spParted C) := ok_parted G T F_parted c_heads m_Round
  have c_parted : CalF l.prog w K mg base 6 "parted" (spParted C) := ⟨f_parted, fd_parted, _, o_parted, PySem.W.mg_of X G0 a_parted, F_parted.kp, b_parted⟩
  have o_loop_of : FnOk l.prog w K mg base CX0 2 f_loop_of fd_loop_of ["choice"] spLoopOf := ok_loop_of G F_loop_of c_turned
  have c_loop_of : CalF l.prog w K mg base 2 "loop_of" spLoopOf := ⟨f_loop_of, fd_loop_of, _, o_loop_of, PySem.W.mg_of X G0 a_loop_of, F_loop_of.kp, b_loop_of⟩
  have o_loops : FnOk l.prog w K mg base CX0 3 f_loops fd_loops ["n", "k"] spLoops := ok_loops G gL F_loops c_count c_choice_at
  have c_loops : CalF l.prog w K mg base 3 "loops" spLoops := ⟨f_loops, fd_loops, _, o_loops, PySem.W.mg_of X G0 a_loops, F_loops.kp, b_loops⟩
  have o_turn_rows : FnOk l.prog w K mg base CX0 6 f_turn_rows fd_turn_rows ["n", "k"] (spTurnRows C) := ok_turn_rows G T F_turn_rows c_loops m_Round
  have c_turn_rows : CalF l.prog w K mg base 6 "turn_rows" (spTurnRows C) := ⟨f_turn_rows, fd_turn_rows, _, o_turn_rows, PySem.W.mg_of X G0 a_turn_rows, F_turn_rows.kp, b_turn_rows⟩
  have o_can_be : FnOk l.prog w K mg base CX0 1 f_can_be fd_can_be ["n", "k"] spCanBe := ok_can_be F_can_be
  have c_can_be : CalF l.prog w K mg base 1 "can_be" spCanBe := ⟨f_can_be, fd_can_be, _, o_can_be, PySem.W.mg_of X G0 a_can_be, F_can_be.kp, b_can_be⟩
  have o_meeting : FnOk l.prog w K mg base CX0 5 f_meeting fd_meeting ["row", "others", "k"] (spMeeting C) := ok_meeting G F_meeting c_heads
  have c_meeting : CalF l.prog w K mg base 5 "meeting" (spMeeting C) := ⟨f_meeting, fd_meeting, _, o_meeting, PySem.W.mg_of X G0 a_meeting, F_meeting.kp, b_meeting⟩
  have o_round_row : FnOk l.prog w K mg base CX0 7 f_round_row fd_round_row ["n", "k"] (spRoundRow C) := ok_round_row G gC F_round_row c_can_be c_count c_turn_rows c_joined c_meeting
  have c_round_row : CalF l.prog w K mg base 7 "round_row" (spRoundRow C) := ⟨f_round_row, fd_round_row, _, o_round_row, PySem.W.mg_of X G0 a_round_row, F_round_row.kp, b_round_row⟩
  have o_no_row : FnOk l.prog w K mg base (L2.CX l.prog w) 7 f_round_row fd_round_row ["n", "k"] (spNoRow CW) := ok_no_row N F_round_row c_can_be
  have c_no_row : CalX l.prog w K mg base 7 "round_row" (spNoRow CW) := ⟨f_round_row, fd_round_row, _, o_no_row, PySem.W.mg_of X G0 a_round_row, F_round_row.kp, b_round_row⟩
  have o_plain_row : FnOk l.prog w K mg base CX0 8 f_plain_row fd_plain_row ["n", "k"] (spPlainRow CP) := ok_plain_row T F_plain_row c_round_row m_opened
  have c_plain_row : CalF l.prog w K mg base 8 "plain_row" (spPlainRow CP) := ⟨f_plain_row, fd_plain_row, _, o_plain_row, PySem.W.mg_of X G0 a_plain_row, F_plain_row.kp, b_plain_row⟩
  have o_way_paper : FnOk l.prog w K mg base CX0 8 f_way_paper fd_way_paper ["n", "k"] spWayPaper := ok_way_paper G T F_way_paper c_can_be c_round_row
  have c_way_paper : CalF l.prog w K mg base 8 "way_paper" spWayPaper := ⟨f_way_paper, fd_way_paper, _, o_way_paper, PySem.W.mg_of X G0 a_way_paper, F_way_paper.kp, b_way_paper⟩
  have o_orders_of : FnOk l.prog w K mg base CX0 4 f_orders_of fd_orders_of ["row"] (spOrders C) := ok_orders_of G T F_orders_of m_windows c_is_choice c_lacking
  have c_orders_of : CalF l.prog w K mg base 4 "orders_of" (spOrders C) := ⟨f_orders_of, fd_orders_of, _, o_orders_of, PySem.W.mg_of X G0 a_orders_of, F_orders_of.kp, b_orders_of⟩
  have o_shows_once : FnOk l.prog w K mg base CX0 6 f_shows_once fd_shows_once ["n", "k", "things"] spShowsOnce := ok_shows_once G T gE F_shows_once m_Round m_windows c_is_choice c_count
  have c_shows_once : CalF l.prog w K mg base 6 "shows_once" spShowsOnce := ⟨f_shows_once, fd_shows_once, _, o_shows_once, PySem.W.mg_of X G0 a_shows_once, F_shows_once.kp, b_shows_once⟩
  have o_shows_way : FnOk l.prog w K mg base CX0 7 f_shows_way fd_shows_way ["n", "k", "thing"] spShowsWay := ok_shows_way G F_shows_way c_shows_once c_is_choice c_loop_of
  have c_shows_way : CalF l.prog w K mg base 7 "shows_way" spShowsWay := ⟨f_shows_way, fd_shows_way, _, o_shows_way, PySem.W.mg_of X G0 a_shows_way, F_shows_way.kp, b_shows_way⟩
  have o_l_hand : FnOk l.prog w K mg base CX0 1 f_l_hand fd_l_hand ["_law_script", "_law_place"] (spHand K) := ok_l_hand G F_l_hand
  have c_l_hand : CalF l.prog w K mg base 1 "_law_hand" (spHand K) := ⟨f_l_hand, fd_l_hand, _, o_l_hand, PySem.W.mg_of X G0 a_l_hand, F_l_hand.kp, b_l_hand⟩
  have o_l_take : FnOk l.prog w K mg base CX0 1 f_l_take fd_l_take ["_law_hand_here", "_law_many"] spTake := ok_l_take F_l_take
  have c_l_take : CalF l.prog w K mg base 1 "_law_take" spTake := ⟨f_l_take, fd_l_take, _, o_l_take, PySem.W.mg_of X G0 a_l_take, F_l_take.kp, b_l_take⟩
  have o_l_sizes : FnOk l.prog w K mg base CX0 2 f_l_sizes fd_l_sizes ["_law_hand_here"] spSizes := ok_l_sizes G F_l_sizes c_l_take
  have c_l_sizes : CalF l.prog w K mg base 2 "_law_sizes" spSizes := ⟨f_l_sizes, fd_l_sizes, _, o_l_sizes, PySem.W.mg_of X G0 a_l_sizes, F_l_sizes.kp, b_l_sizes⟩
  have o_l_windows : FnOk l.prog w K mg base CX0 1 f_l_windows fd_l_windows ["_law_things", "_law_k", "_law_round_one"] spLWins := ok_l_windows G F_l_windows
  have c_l_windows : CalF l.prog w K mg base 1 "_law_windows" spLWins := ⟨f_l_windows, fd_l_windows, _, o_l_windows, PySem.W.mg_of X G0 a_l_windows, F_l_windows.kp, b_l_windows⟩
  have o_l_all_once : FnOk l.prog w K mg base CX0 2 f_l_all_once fd_l_all_once ["_law_windows_here", "_law_n", "_law_k"] spAllOnce := ok_l_all_once G F_l_all_once c_count
  have c_l_all_once : CalF l.prog w K mg base 2 "_law_all_once" spAllOnce := ⟨f_l_all_once, fd_l_all_once, _, o_l_all_once, PySem.W.mg_of X G0 a_l_all_once, F_l_all_once.kp, b_l_all_once⟩
  have o_l_parts : FnOk l.prog w K mg base CX0 2 f_l_parts fd_l_parts ["_law_hand_here", "_law_row", "_law_k"] (spParts C) := ok_l_parts G T F_l_parts c_l_take
  have c_l_parts : CalF l.prog w K mg base 2 "_law_parts" (spParts C) := ⟨f_l_parts, fd_l_parts, _, o_l_parts, PySem.W.mg_of X G0 a_l_parts, F_l_parts.kp, b_l_parts⟩
  have o_l_turned : FnOk l.prog w K mg base CX0 6 f_l_turned fd_l_turned ["_law_hand_here", "_law_row"] (spLTurned C) := ok_l_turned G T F_l_turned c_l_take m_Round
  have c_l_turned : CalF l.prog w K mg base 6 "_law_turned" (spLTurned C) := ⟨f_l_turned, fd_l_turned, _, o_l_turned, PySem.W.mg_of X G0 a_l_turned, F_l_turned.kp, b_l_turned⟩
  have o_l_joined_right : FnOk l.prog w K mg base CX0 7 f_l_joined_right fd_l_joined_right ["_law_one", "_law_other", "_law_k"] (spJoinedRight C) := ok_l_joined_right G T IC gR F_l_joined_right c_l_windows c_joined
  have c_l_joined_right : CalF l.prog w K mg base 7 "_law_joined_right" (spJoinedRight C) := ⟨f_l_joined_right, fd_l_joined_right, _, o_l_joined_right, PySem.W.mg_of X G0 a_l_joined_right, F_l_joined_right.kp, b_l_joined_right⟩
  have o_l_row_right : FnOk l.prog w K mg base CX0 8 f_l_row_right fd_l_row_right ["_law_hand_here", "_law_n", "_law_k", "_law_things"] spRowRight := ok_l_row_right G T TP ICP gP F_l_row_right m_Round c_l_take c_l_windows c_l_all_once m_just_once m_opened c_l_parts c_parted c_l_turned c_l_joined_right c_shared c_orders_of
  have c_l_row_right : CalF l.prog w K mg base 8 "_law_row_right" spRowRight := ⟨f_l_row_right, fd_l_row_right, _, o_l_row_right, PySem.W.mg_of X G0 a_l_row_right, F_l_row_right.kp, b_l_row_right⟩
  have o_l_none_right : FnOk l.prog w K mg base CX0 8 f_l_none_right fd_l_none_right ["_law_n", "_law_paper"] spNoneRight := ok_l_none_right G N F_l_none_right c_no_row c_loop_of
  have c_l_none_right : CalF l.prog w K mg base 8 "_law_none_right" spNoneRight := ⟨f_l_none_right, fd_l_none_right, _, o_l_none_right, PySem.W.mg_of X G0 a_l_none_right, F_l_none_right.kp, b_l_none_right⟩
  have o_l_paper_right : FnOk l.prog w K mg base CX0 9 f_l_paper_right fd_l_paper_right ["_law_hand_here", "_law_n", "_law_k", "_law_paper"] spPaperRight := ok_l_paper_right G TP F_l_paper_right c_shows_way c_l_none_right c_plain_row c_l_row_right c_l_all_once c_l_windows
  have c_l_paper_right : CalF l.prog w K mg base 9 "_law_paper_right" spPaperRight := ⟨f_l_paper_right, fd_l_paper_right, _, o_l_paper_right, PySem.W.mg_of X G0 a_l_paper_right, F_l_paper_right.kp, b_l_paper_right⟩
  exact ok_law G F_law c_l_hand c_l_sizes c_can_be c_count c_way_paper c_shows_way c_l_paper_right
theorem walk {l : PySem.W.OpenLaw} {q : Program} {loose : List Str} {XP : (Str → Option Value) → Heap → Prop} {YP : World → Heap → Prop} {d : DefRec} {K : Params → PySem.W.Frag} (hn : l.most = some 63) (hdf : d.params.defaults = [])
    (hY : ∀ (w : World) (h : Heap), YP w h → (K w.params).In h)
    (F : ∀ (w : World) (mg : Str → Option Value) (fa : Addr) (h : Heap), (K w.params).In h → h.Ns mainGlobals mg → mg d.name = some (.ref fa) →
      ∃ fd : FuncData, (∀ (s : Shared) (u : Value), BindsTo s fd ⟨[u], []⟩ [("_law_script", u)]) ∧ ∀ base : Heap, (K w.params).In base → base.Ns mainGlobals mg → FnOk l.prog w (K w.params) mg base CX0 10 fa fd ["_law_script"] (spLaw (K w.params))) :
    PySem.W.WalkO q loose XP YP l.row.toRowW d [] (fun f vs => PySem.call f vs) :=
  L2.walk_of (n := 63) (k := 10) (x := "_law_script") (CX := fun _ => CX0) (sp := fun w => spLaw (K w.params)) hn (by decide) hdf ⟨rfl, by decide, by decide⟩ hY F (fun _ _ a ns hl _ hS => ⟨a, ns, rfl, hS, fun _ => rfl⟩) fun _ _ _ _ _ z => z
end WR

-- part: Head
set_option Elab.async false
set_option maxRecDepth 100000
open PySem PySem.W PyProof.Rows
set_option maxHeartbeats 0
namespace WR
open_top head for PySem.Challenge.rw_orderrows_k74_whole_rounds
end WR

-- part: WRFin
set_option Elab.async false
set_option linter.all false
set_option maxRecDepth 100000
open PySem PySem.W PyProof.Rows
set_option maxRecDepth 100000 in
set_option maxHeartbeats 0 in
theorem PySem.Challenge.cw_orderrows_k74_whole_rounds_holds : PySem.Challenge.rw_orderrows_k74_whole_rounds.Holds := by
  refine WR.head ?_
  k_fill
  refine WR.walk (l := PySem.Challenge.rw_orderrows_k74_whole_rounds) rfl rfl (fun w h Y => PySem.W.kIn_of Y) ?F
  case F =>
    intro w mg fa h KX G hmg
    refine' WR.all_mk KX G hmg ?aC ?aP ?aN ?aW ?aM ?aL ?aH ?z_isinstance ?z_int ?z_bool ?z_tuple ?z_str ?z_len ?z_all ?z_any ?z_set ?z_range ?z_list ?z_divmod ?z_max ?z_min ?z_dict ?z_enumerate ?z_sorted ?z_abs ?T ?TP ?IC ?ICP ?mC ?kC ?mP ?kP ?xW ?kW ?bW ?tW ?eW ?d_wholeC ?d_wholeR ?d_thing ?d_is_choice ?d_count ?d_choice_at ?d_lacking ?d_turned ?d_is_below ?d_can_be_row ?d_are_unlike ?d_init ?d_initP ?d_wide ?d_goes_round ?d_how_many ?d_window_at ?d_windows ?d_stands ?d_has_all ?d_waste ?d_just_once ?d_opened ?d_heads ?d_least ?d_shared ?d_begun_at ?d_joined ?d_parted ?d_loop_of ?d_loops ?d_turn_rows ?d_can_be ?d_meeting ?d_round_row ?d_plain_row ?d_way_paper ?d_orders_of ?d_shows_once ?d_shows_way ?d_l_hand ?d_l_take ?d_l_sizes ?d_l_windows ?d_l_all_once ?d_l_parts ?d_l_turned ?d_l_joined_right ?d_l_row_right ?d_l_none_right ?d_l_paper_right ?d_law
    (case aC => k_is)
    (case aP => k_is)
    (case aN => k_is)
    (case aW => k_is)
    (case aM => k_is)
    (case aL => k_is)
    (case aH => k_is)
    (case z_isinstance => k_is)
    (case z_int => k_is)
    (case z_bool => k_is)
    (case z_tuple => k_is)
    (case z_str => k_is)
    (case z_len => k_is)
    (case z_all => k_is)
    (case z_any => k_is)
    (case z_set => k_is)
    (case z_range => k_is)
    (case z_list => k_is)
    (case z_divmod => k_is)
    (case z_max => k_is)
    (case z_min => k_is)
    (case z_dict => k_is)
    (case z_enumerate => k_is)
    (case z_sorted => k_is)
    (case z_abs => k_is)
    (case T => refine' ⟨⟨?pg, ?hd, ?po, ?sa⟩, ?nN, ?nT⟩; (case pg => k_is); (case hd => k_is); (case po => k_is); (case sa => k_is); (case nN => unfold L2.NoAttr; k_is); (case nT => unfold L2.NoAttr; k_is))
    (case TP => refine' ⟨⟨?pg, ?hd, ?po, ?sa⟩, ?nN, ?nT⟩; (case pg => k_is); (case hd => k_is); (case po => k_is); (case sa => k_is); (case nN => unfold L2.NoAttr; k_is); (case nT => unfold L2.NoAttr; k_is))
    (case IC => refine' ⟨?ha, ?hn, ?ht, ?hm, WR.kit_self _ _⟩; (case ha => k_is); (case hn => k_is); (case ht => k_is); (case hm => k_is))
    (case ICP => refine' ⟨?ha, ?hn, ?ht, ?hm, WR.kit_self _ _⟩; (case ha => k_is); (case hn => k_is); (case ht => k_is); (case hm => k_is))
    (case mC => k_is)
    (case kC => k_is)
    (case mP => k_is)
    (case kP => k_is)
    (case xW => k_exc)
    (case kW => k_is)
    (case bW => k_is)
    (case tW => k_is)
    (case eW => refine' WR.exm_at ?e1 ?e2 ?e3 ?e4; (case e1 => k_is); (case e2 => k_is); (case e3 => k_is); (case e4 => first | rfl | k_is))
    (case d_wholeC => refine' WR.def_at KX ?a ?l ?c ?k; (case a => k_is); (case l => k_is); (case c => k_is); (case k => k_is))
    (case d_wholeR => refine' WR.def_at KX ?a ?l ?c ?k; (case a => k_is); (case l => k_is); (case c => k_is); (case k => k_is))
    (case d_thing => refine' WR.def_at KX ?a ?l ?c ?k; (case a => k_is); (case l => k_is); (case c => k_is); (case k => k_is))
    (case d_is_choice => refine' WR.def_at KX ?a ?l ?c ?k; (case a => k_is); (case l => k_is); (case c => k_is); (case k => k_is))
    (case d_count => refine' WR.def_at KX ?a ?l ?c ?k; (case a => k_is); (case l => k_is); (case c => k_is); (case k => k_is))
    (case d_choice_at => refine' WR.def_at KX ?a ?l ?c ?k; (case a => k_is); (case l => k_is); (case c => k_is); (case k => k_is))
    (case d_lacking => refine' WR.def_at KX ?a ?l ?c ?k; (case a => k_is); (case l => k_is); (case c => k_is); (case k => k_is))
    (case d_turned => refine' WR.def_at KX ?a ?l ?c ?k; (case a => k_is); (case l => k_is); (case c => k_is); (case k => k_is))
    (case d_is_below => refine' WR.def_at KX ?a ?l ?c ?k; (case a => k_is); (case l => k_is); (case c => k_is); (case k => k_is))
    (case d_can_be_row => refine' WR.def_at KX ?a ?l ?c ?k; (case a => k_is); (case l => k_is); (case c => k_is); (case k => k_is))
    (case d_are_unlike => refine' WR.def_at KX ?a ?l ?c ?k; (case a => k_is); (case l => k_is); (case c => k_is); (case k => k_is))
    (case d_init => refine' WR.met_at KX ?a ?i ?l ?c ?k; (case a => k_is); (case i => k_is); (case l => k_is); (case c => k_is); (case k => k_is))
    (case d_initP => refine' WR.met_at KX ?a ?i ?l ?c ?k; (case a => k_is); (case i => k_is); (case l => k_is); (case c => k_is); (case k => k_is))
    (case d_wide => refine' WR.met_at KX ?a ?i ?l ?c ?k; (case a => k_is); (case i => k_is); (case l => k_is); (case c => k_is); (case k => k_is))
    (case d_goes_round => refine' WR.met_at KX ?a ?i ?l ?c ?k; (case a => k_is); (case i => k_is); (case l => k_is); (case c => k_is); (case k => k_is))
    (case d_how_many => refine' WR.met_at KX ?a ?i ?l ?c ?k; (case a => k_is); (case i => k_is); (case l => k_is); (case c => k_is); (case k => k_is))
    (case d_window_at => refine' WR.met_at KX ?a ?i ?l ?c ?k; (case a => k_is); (case i => k_is); (case l => k_is); (case c => k_is); (case k => k_is))
    (case d_windows => refine' WR.met_dat KX ?a ?i ?l ?c ?k ?lT ?dT; (case a => k_is); (case i => k_is); (case l => k_is); (case c => k_is); (case k => k_is); (case lT => k_is); (case dT => rfl))
    (case d_stands => refine' WR.met_dat KX ?a ?i ?l ?c ?k ?lT ?dT; (case a => k_is); (case i => k_is); (case l => k_is); (case c => k_is); (case k => k_is); (case lT => k_is); (case dT => rfl))
    (case d_has_all => refine' WR.met_dat KX ?a ?i ?l ?c ?k ?lT ?dT; (case a => k_is); (case i => k_is); (case l => k_is); (case c => k_is); (case k => k_is); (case lT => k_is); (case dT => rfl))
    (case d_waste => refine' WR.met_dat KX ?a ?i ?l ?c ?k ?lT ?dT; (case a => k_is); (case i => k_is); (case l => k_is); (case c => k_is); (case k => k_is); (case lT => k_is); (case dT => rfl))
    (case d_just_once => refine' WR.met_dat KX ?a ?i ?l ?c ?k ?lT ?dT; (case a => k_is); (case i => k_is); (case l => k_is); (case c => k_is); (case k => k_is); (case lT => k_is); (case dT => rfl))
    (case d_opened => refine' WR.met_dat KX ?a ?i ?l ?c ?k ?lT ?dT; (case a => k_is); (case i => k_is); (case l => k_is); (case c => k_is); (case k => k_is); (case lT => k_is); (case dT => rfl))
    (case d_heads => refine' WR.def_at KX ?a ?l ?c ?k; (case a => k_is); (case l => k_is); (case c => k_is); (case k => k_is))
    (case d_least => refine' WR.def_at KX ?a ?l ?c ?k; (case a => k_is); (case l => k_is); (case c => k_is); (case k => k_is))
    (case d_shared => refine' WR.def_at KX ?a ?l ?c ?k; (case a => k_is); (case l => k_is); (case c => k_is); (case k => k_is))
    (case d_begun_at => refine' WR.def_at KX ?a ?l ?c ?k; (case a => k_is); (case l => k_is); (case c => k_is); (case k => k_is))
    (case d_joined => refine' WR.def_at KX ?a ?l ?c ?k; (case a => k_is); (case l => k_is); (case c => k_is); (case k => k_is))
    (case d_parted => refine' WR.def_at KX ?a ?l ?c ?k; (case a => k_is); (case l => k_is); (case c => k_is); (case k => k_is))
    (case d_loop_of => refine' WR.def_at KX ?a ?l ?c ?k; (case a => k_is); (case l => k_is); (case c => k_is); (case k => k_is))
    (case d_loops => refine' WR.def_at KX ?a ?l ?c ?k; (case a => k_is); (case l => k_is); (case c => k_is); (case k => k_is))
    (case d_turn_rows => refine' WR.def_at KX ?a ?l ?c ?k; (case a => k_is); (case l => k_is); (case c => k_is); (case k => k_is))
    (case d_can_be => refine' WR.def_at KX ?a ?l ?c ?k; (case a => k_is); (case l => k_is); (case c => k_is); (case k => k_is))
    (case d_meeting => refine' WR.def_at KX ?a ?l ?c ?k; (case a => k_is); (case l => k_is); (case c => k_is); (case k => k_is))
    (case d_round_row => refine' WR.def_at KX ?a ?l ?c ?k; (case a => k_is); (case l => k_is); (case c => k_is); (case k => k_is))
    (case d_plain_row => refine' WR.def_at KX ?a ?l ?c ?k; (case a => k_is); (case l => k_is); (case c => k_is); (case k => k_is))
    (case d_way_paper => refine' WR.def_at KX ?a ?l ?c ?k; (case a => k_is); (case l => k_is); (case c => k_is); (case k => k_is))
    (case d_orders_of => refine' WR.def_at KX ?a ?l ?c ?k; (case a => k_is); (case l => k_is); (case c => k_is); (case k => k_is))
    (case d_shows_once => refine' WR.def_at KX ?a ?l ?c ?k; (case a => k_is); (case l => k_is); (case c => k_is); (case k => k_is))
    (case d_shows_way => refine' WR.def_at KX ?a ?l ?c ?k; (case a => k_is); (case l => k_is); (case c => k_is); (case k => k_is))
    (case d_l_hand => refine' WR.def_at KX ?a ?l ?c ?k; (case a => k_is); (case l => k_is); (case c => k_is); (case k => k_is))
    (case d_l_take => refine' WR.def_at KX ?a ?l ?c ?k; (case a => k_is); (case l => k_is); (case c => k_is); (case k => k_is))
    (case d_l_sizes => refine' WR.def_at KX ?a ?l ?c ?k; (case a => k_is); (case l => k_is); (case c => k_is); (case k => k_is))
    (case d_l_windows => refine' WR.def_at KX ?a ?l ?c ?k; (case a => k_is); (case l => k_is); (case c => k_is); (case k => k_is))
    (case d_l_all_once => refine' WR.def_at KX ?a ?l ?c ?k; (case a => k_is); (case l => k_is); (case c => k_is); (case k => k_is))
    (case d_l_parts => refine' WR.def_at KX ?a ?l ?c ?k; (case a => k_is); (case l => k_is); (case c => k_is); (case k => k_is))
    (case d_l_turned => refine' WR.def_at KX ?a ?l ?c ?k; (case a => k_is); (case l => k_is); (case c => k_is); (case k => k_is))
    (case d_l_joined_right => refine' WR.def_at KX ?a ?l ?c ?k; (case a => k_is); (case l => k_is); (case c => k_is); (case k => k_is))
    (case d_l_row_right => refine' WR.def_at KX ?a ?l ?c ?k; (case a => k_is); (case l => k_is); (case c => k_is); (case k => k_is))
    (case d_l_none_right => refine' WR.def_at KX ?a ?l ?c ?k; (case a => k_is); (case l => k_is); (case c => k_is); (case k => k_is))
    (case d_l_paper_right => refine' WR.def_at KX ?a ?l ?c ?k; (case a => k_is); (case l => k_is); (case c => k_is); (case k => k_is))
    (case d_law => refine' WR.def_at KX ?a ?l ?c ?k; (case a => k_is); (case l => k_is); (case c => k_is); (case k => k_is))
