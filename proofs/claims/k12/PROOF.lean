import PyProof.Rows.All
import Wide.All
import OpenK.AllK
import Wide.FinOn
import KE.GoesMore
import KE.GoesEnum
import HandS.ForMost
import HandS.ForExc
import HandS.Strs
import HandS.SetFor
import HandS.TupAny
import HandS.IsInst
import HandS.ExcIs
import HandS.Lambda
import HandS.Star
import HandS.Style
import HandS.Conv
import HandS.Flow
import PyProof.SeqIndex
import HandS.Defaults
import HandS.Evl
import PyProof.FactsAll.range_1
import HandS.WordsExc
import HandS.ExcOwn
import HandS.Small
import HandS.HeadHook1
import PyProof.ExcBaseAll.ValueError
import HandS.Base
import HandS.Call
import HandS.Ends
import HandS.Words
import HandS.Head0
import HandS.Head1
import HandS.Head2
import HandS.HeadEnd
import HandS.HeadHook2
import HandS.HeadHook3
import HandS.HeadHook4
import HandS.HeadWalk
import PySem.Challenge.RW_standgates_k12_whole_smaller_nets
set_option Elab.async false
set_option linter.all false
set_option maxRecDepth 100000
section
set_option maxHeartbeats 4000000
/-! The plain law: nets, their tables, what is kept, what is thin. No program here. -/
namespace Nt
/-! ### ascending lists -/
theorem asc_ext : ∀ {l m : List Nat}, l.Pairwise (· < ·) → m.Pairwise (· < ·) → (∀ x, x ∈ l ↔ x ∈ m) → l = m
  | [], [], _, _, _ => rfl
  | [], b :: m, _, _, h => absurd ((h b).mpr List.mem_cons_self) (by simp)
  | a :: l, [], _, _, h => absurd ((h a).mp List.mem_cons_self) (by simp)
  | a :: l, b :: m, hl, hm, h => by
    have hl' := List.pairwise_cons.mp hl
    have hm' := List.pairwise_cons.mp hm
    have hab : a = b := by
      have h1 := (h a).mp List.mem_cons_self
      have h2 := (h b).mpr List.mem_cons_self
      rcases List.mem_cons.mp h1 with e | h1
      · exact e
      · rcases List.mem_cons.mp h2 with e | h2
        · exact e.symm
        · have := hm'.1 _ h1
          have := hl'.1 _ h2
          omega
    subst hab
    refine congrArg (a :: ·) (asc_ext hl'.2 hm'.2 fun x => ⟨fun hx => ?_, fun hx => ?_⟩)
    · have := hl'.1 _ hx
      rcases List.mem_cons.mp ((h x).mp (List.mem_cons_of_mem _ hx)) with e | h'
      · omega
      · exact h'
    · have := hm'.1 _ hx
      rcases List.mem_cons.mp ((h x).mpr (List.mem_cons_of_mem _ hx)) with e | h'
      · omega
      · exact h'
theorem asc_range (n : Nat) : (List.range n).Pairwise (· < ·) := List.pairwise_lt_range
theorem asc_nodup {l : List Nat} (h : l.Pairwise (· < ·)) : l.Nodup := h.imp fun h => Nat.ne_of_lt h
/-- the ascending list of what is in a list, below m -/
def sd (m : Nat) (l : List Nat) : List Nat := (List.range m).filter (l.contains ·)
theorem sd_asc (m : Nat) (l : List Nat) : (sd m l).Pairwise (· < ·) := (asc_range m).filter _
theorem mem_sd {m : Nat} {l : List Nat} {x : Nat} : x ∈ sd m l ↔ x < m ∧ x ∈ l := by
  unfold sd
  rw [List.mem_filter, List.mem_range, List.contains_iff_mem]
theorem sd_eq {m : Nat} {l s : List Nat} (h : s.Pairwise (· < ·)) (hm : ∀ x ∈ l, x < m) (hs : ∀ x, x ∈ s ↔ x ∈ l) : s = sd m l :=
  asc_ext h (sd_asc m l) fun x => by
    rw [mem_sd, hs]
    exact ⟨fun hx => ⟨hm x hx, hx⟩, fun hx => hx.2⟩
theorem idx_lt {l : List Nat} {x : Nat} (h : x ∈ l) : l.idxOf x < l.length := List.idxOf_lt_length_iff.mpr h
theorem get_idx {l : List Nat} {x : Nat} (h : x ∈ l) : l[l.idxOf x]'(idx_lt h) = x := List.getElem_idxOf _
theorem asc_get {l : List Nat} (h : l.Pairwise (· < ·)) {i j : Nat} (hi : i < l.length) (hj : j < l.length) : l[i] < l[j] ↔ i < j := by
  have hp := List.pairwise_iff_getElem.mp h
  constructor
  · intro q
    by_cases c : i < j
    · exact c
    · by_cases c2 : i = j
      · subst c2; omega
      · have := hp j i hj hi (by omega)
        omega
  · exact hp i j hi hj
theorem idx_mono {l : List Nat} (h : l.Pairwise (· < ·)) {x y : Nat} (hx : x ∈ l) (hy : y ∈ l) : l.idxOf x < l.idxOf y ↔ x < y := by
  have := asc_get h (idx_lt hx) (idx_lt hy)
  rw [get_idx hx, get_idx hy] at this
  exact this.symm
theorem idx_inj {l : List Nat} {x y : Nat} (hx : x ∈ l) (hy : y ∈ l) (e : l.idxOf x = l.idxOf y) : x = y := by
  have h1 := get_idx hx
  have h2 := get_idx hy
  simp only [e] at h1
  exact h1.symm.trans h2
theorem idx_get {l : List Nat} (h : l.Pairwise (· < ·)) {i : Nat} (hi : i < l.length) : l.idxOf l[i] = i := by
  have hm : l[i] ∈ l := List.getElem_mem hi
  have e := get_idx hm
  rcases Nat.lt_trichotomy (l.idxOf l[i]) i with c | c | c
  · have := (asc_get h (idx_lt hm) hi).mpr c
    omega
  · exact c
  · have := (asc_get h hi (idx_lt hm)).mpr c
    omega
/-- an ascending list that has 0 .. n - 1 -/
theorem low_get {l : List Nat} (h : l.Pairwise (· < ·)) {n : Nat} (hn : ∀ i, i < n → i ∈ l) : ∀ i, i < n → ∃ hi : i < l.length, l[i] = i := by
  intro i
  induction i using Nat.strongRecOn with
  | _ i ih =>
    intro hi
    have hm := hn i hi
    have hlt := idx_lt hm
    have e := get_idx hm
    -- no place below i holds i
    have ge : i ≤ l.idxOf i := by
      refine Nat.le_of_not_lt fun c => ?_
      obtain ⟨hj, ej⟩ := ih _ c (by omega)
      rw [e] at ej
      omega
    by_cases c : l.idxOf i = i
    · refine ⟨by omega, ?_⟩
      simp only [c] at e
      exact e
    · have hi' : i < l.length := by omega
      have h1 : l[i] < i := by
        have := (asc_get h hi' hlt).mpr (by omega)
        rw [e] at this
        exact this
      obtain ⟨hj, ej⟩ := ih _ h1 (by omega)
      have := (asc_get h hj hi').mpr h1
      omega
theorem idx_low {l : List Nat} (h : l.Pairwise (· < ·)) {n : Nat} (hn : ∀ i, i < n → i ∈ l) {i : Nat} (hi : i < n) : l.idxOf i = i := by
  obtain ⟨hj, e⟩ := low_get h hn i hi
  have := idx_get h hj
  rw [e] at this
  exact this
theorem low_len {l : List Nat} (h : l.Pairwise (· < ·)) {n : Nat} (hn : ∀ i, i < n → i ∈ l) : n ≤ l.length := by
  cases n with
  | zero => exact Nat.zero_le _
  | succ n => exact (low_get h hn n (Nat.lt_succ_self n)).1
theorem high_get {l : List Nat} (h : l.Pairwise (· < ·)) {n : Nat} (hn : ∀ i, i < n → i ∈ l) {i : Nat} (hi : i < l.length) (hni : n ≤ i) : n ≤ l[i] := by
  refine Nat.le_of_not_lt fun c => ?_
  obtain ⟨hj, e⟩ := low_get h hn _ c
  have h1 := idx_get h hi
  have h2 := idx_get h hj
  rw [e] at h2
  omega
theorem idx_high {l : List Nat} (h : l.Pairwise (· < ·)) {n : Nat} (hn : ∀ i, i < n → i ∈ l) {x : Nat} (hx : x ∈ l) (hnx : n ≤ x) : n ≤ l.idxOf x := by
  refine Nat.le_of_not_lt fun c => ?_
  obtain ⟨hj, e⟩ := low_get h hn _ c
  have := get_idx hx
  omega
theorem mem_drop_low {l : List Nat} (h : l.Pairwise (· < ·)) {n : Nat} (hn : ∀ i, i < n → i ∈ l) {x : Nat} : x ∈ l.drop n ↔ x ∈ l ∧ n ≤ x := by
  constructor
  · intro hx
    obtain ⟨i, hi, e⟩ := List.mem_iff_getElem.mp hx
    rw [List.getElem_drop] at e
    refine ⟨List.mem_of_mem_drop hx, ?_⟩
    rw [← e]
    exact high_get h hn _ (Nat.le_add_right _ _)
  · rintro ⟨hx, hnx⟩
    have h1 := idx_high h hn hx hnx
    refine List.mem_iff_getElem.mpr ⟨l.idxOf x - n, ?_, ?_⟩
    · rw [List.length_drop]
      have := idx_lt hx
      omega
    · rw [List.getElem_drop]
      have e : n + (l.idxOf x - n) = l.idxOf x := by omega
      simp only [e]
      exact get_idx hx
/-! ### nets -/
abbrev Net := Nat × List (List Nat)
def size (N : Net) : Nat := N.1 + N.2.length
def fr (N : Net) (p : Nat) : List Nat := if N.1 ≤ p then N.2.getD (p - N.1) [] else []
structure Ok (N : Net) : Prop where
  lo : 1 ≤ N.1
  hi : N.1 ≤ 3
  few : N.2.length ≤ 6
  asc : ∀ p, (fr N p).Pairwise (· < ·)
  less : ∀ p, ∀ o ∈ fr N p, o < p
structure Ans (N : Net) (as : List Nat) : Prop where
  ne : as ≠ []
  asc : as.Pairwise (· < ·)
  lt : ∀ a ∈ as, a < size N
theorem fr_at {N : Net} {k : Nat} (hk : k < N.2.length) : fr N (N.1 + k) = N.2[k] := by
  unfold fr
  rw [if_pos (Nat.le_add_right _ _), Nat.add_sub_cancel_left, List.getD_eq_getElem?_getD, List.getElem?_eq_getElem hk] <;> rfl
theorem fr_in {N : Net} {p : Nat} (h : p < N.1) : fr N p = [] := by
  unfold fr
  rw [if_neg (by omega)]
theorem fr_out {N : Net} {p : Nat} (h : size N ≤ p) : fr N p = [] := by
  unfold fr
  unfold size at h
  rw [if_pos (by omega), List.getD_eq_getElem?_getD, List.getElem?_eq_none (by omega)] <;> rfl
theorem Ok.size {N : Net} (h : Ok N) : size N ≤ 9 := by
  have := h.hi
  have := h.few
  unfold Nt.size
  omega
theorem asc_len {l : List Nat} (h : l.Pairwise (· < ·)) {m : Nat} (hm : ∀ x ∈ l, x < m) : l.length ≤ m := by
  have e : l = sd m l := sd_eq h hm fun x => Iff.rfl
  rw [e]
  unfold sd
  exact Nat.le_trans (List.length_filter_le _ _) (by rw [List.length_range]; exact Nat.le_refl _)
theorem Ok.frlen {N : Net} (h : Ok N) (p : Nat) : (fr N p).length ≤ p := asc_len (h.asc p) (h.less p)
theorem Ok.of {N : Net} (lo : 1 ≤ N.1) (hi : N.1 ≤ 3) (few : N.2.length ≤ 6) (asc : ∀ k (h : k < N.2.length), (N.2[k]).Pairwise (· < ·)) (less : ∀ k (h : k < N.2.length), ∀ o ∈ N.2[k], o < N.1 + k) : Ok N := by
  have key : ∀ p, fr N p = [] ∨ ∃ k, ∃ h : k < N.2.length, p = N.1 + k ∧ fr N p = N.2[k] := fun p => by
    by_cases c : N.1 ≤ p
    · by_cases c2 : p < Nt.size N
      · have hk : p - N.1 < N.2.length := by unfold Nt.size at c2; omega
        refine .inr ⟨p - N.1, hk, by omega, ?_⟩
        have := fr_at hk
        rw [show N.1 + (p - N.1) = p by omega] at this
        exact this
      · exact .inl (fr_out (by omega))
    · exact .inl (fr_in (by omega))
  refine ⟨lo, hi, few, fun p => ?_, fun p o ho => ?_⟩
  · rcases key p with e | ⟨k, h, _, e⟩
    · rw [e]; exact List.Pairwise.nil
    · rw [e]; exact asc k h
  · rcases key p with e | ⟨k, h, ep, e⟩
    · rw [e] at ho; cases ho
    · rw [e] at ho
      rw [ep]
      exact less k h o ho
theorem Ok.at_asc {N : Net} (h : Ok N) {k : Nat} (hk : k < N.2.length) : (N.2[k]).Pairwise (· < ·) := by
  rw [← fr_at hk]
  exact h.asc _
theorem Ok.at_less {N : Net} (h : Ok N) {k : Nat} (hk : k < N.2.length) {o : Nat} (ho : o ∈ N.2[k]) : o < N.1 + k := by
  rw [← fr_at hk] at ho
  exact h.less _ o ho
/-! ### who stands -/
def bits : Nat → List (List Nat)
  | 0 => [[]]
  | k + 1 => (bits k).flatMap fun b => [b ++ [0], b ++ [1]]
def tell (acc g : List Nat) : Nat := if g.any (fun o => acc.getD o 0 == 1) then 0 else 1
def stand (gs : List (List Nat)) (b : List Nat) : List Nat := gs.foldl (fun acc g => acc ++ [tell acc g]) b
def paper (N : Net) : List (List Nat) := (List.range (size N)).map fun p => ((bits N.1).map (stand N.2)).map fun e => e.getD p 0
def tabs (N : Net) (as : List Nat) : List (List Nat) := as.map fun p => (paper N).getD p []
theorem bits_len : ∀ {n : Nat} {b : List Nat}, b ∈ bits n → b.length = n
  | 0, b, h => by
    have e : b = [] := by simpa [bits] using h
    rw [e] <;> rfl
  | n + 1, b, h => by
    obtain ⟨c, hc, hb⟩ := List.mem_flatMap.mp h
    have := bits_len hc
    simp at hb
    rcases hb with e | e <;> rw [e] <;> simp [this]
theorem bits_01 : ∀ {n : Nat} {b : List Nat}, b ∈ bits n → ∀ x ∈ b, x = 0 ∨ x = 1
  | 0, b, h, x, hx => by
    have e : b = [] := by simpa [bits] using h
    rw [e] at hx
    cases hx
  | n + 1, b, h, x, hx => by
    obtain ⟨c, hc, hb⟩ := List.mem_flatMap.mp h
    simp at hb
    rcases hb with e | e <;> rw [e] at hx <;> rcases List.mem_append.mp hx with h' | h'
    · exact bits_01 hc x h'
    · simp at h'; exact .inl h'
    · exact bits_01 hc x h'
    · simp at h'; exact .inr h'
theorem bits_count (n : Nat) : (bits n).length = 2 ^ n := by
  induction n with
  | zero => rfl
  | succ n ih =>
    have : ∀ l : List (List Nat), (l.flatMap fun b => [b ++ [0], b ++ [1]]).length = 2 * l.length := fun l => by
      induction l with
      | nil => rfl
      | cons a l ih => rw [List.flatMap_cons, List.length_append, ih]; simp; omega
    rw [bits, this, ih, Nat.pow_succ]
    omega
theorem stand_append (gs : List (List Nat)) (g : List Nat) (b : List Nat) : stand (gs ++ [g]) b = stand gs b ++ [tell (stand gs b) g] := by
  unfold stand
  rw [List.foldl_append] <;> rfl
theorem stand_len (gs : List (List Nat)) (b : List Nat) : (stand gs b).length = b.length + gs.length := by
  induction gs generalizing b with
  | nil => rfl
  | cons g gs ih =>
    show (stand gs (b ++ [tell b g])).length = _
    rw [ih]
    simp
    omega
/-- a stand begins with what is ahead -/
theorem stand_pre (gs : List (List Nat)) (b : List Nat) : b <+: stand gs b := by
  induction gs generalizing b with
  | nil => exact List.prefix_refl _
  | cons g gs ih => exact (List.prefix_append b [tell b g]).trans (ih _)
theorem getD_pre {l m : List Nat} (h : l <+: m) {i : Nat} (hi : i < l.length) : m.getD i 0 = l.getD i 0 := by
  obtain ⟨t, rfl⟩ := h
  rw [List.getD_eq_getElem?_getD, List.getD_eq_getElem?_getD, List.getElem?_append_left hi]
theorem tell_congr {acc acc' g : List Nat} (h : ∀ o ∈ g, acc.getD o 0 = acc'.getD o 0) : tell acc g = tell acc' g := by
  unfold tell
  have e : (g.any fun o => acc.getD o 0 == 1) = (g.any fun o => acc'.getD o 0 == 1) := by
    induction g with
    | nil => rfl
    | cons a g ih =>
      rw [List.any_cons, List.any_cons, ih fun o ho => h o (List.mem_cons_of_mem _ ho), h a List.mem_cons_self]
  rw [e]
theorem stand_split (gs : List (List Nat)) (b : List Nat) (k : Nat) : stand gs b = stand (gs.drop k) (stand (gs.take k) b) := by
  unfold stand
  rw [← List.foldl_append, List.take_append_drop]
/-- the equation of a gate -/
theorem stand_at {gs : List (List Nat)} {b : List Nat} (hl : ∀ k (h : k < gs.length), ∀ o ∈ gs[k], o < b.length + k) {k : Nat} (hk : k < gs.length) : (stand gs b).getD (b.length + k) 0 = tell (stand gs b) gs[k] := by
  have e1 : stand gs b = stand (gs.drop (k + 1)) (stand (gs.take (k + 1)) b) := stand_split gs b (k + 1)
  have e2 : gs.take (k + 1) = gs.take k ++ [gs[k]] := by
    rw [List.take_add_one, List.getElem?_eq_getElem hk] <;> rfl
  have l1 : (stand (gs.take k) b).length = b.length + k := by
    rw [stand_len, List.length_take, Nat.min_eq_left (by omega)]
  have p1 : stand (gs.take (k + 1)) b <+: stand gs b := by
    rw [e1]
    exact stand_pre _ _
  have p0 : stand (gs.take k) b <+: stand gs b := by
    rw [stand_split gs b k]
    exact stand_pre _ _
  have e3 : stand (gs.take (k + 1)) b = stand (gs.take k) b ++ [tell (stand (gs.take k) b) gs[k]] := by rw [e2, stand_append]
  rw [getD_pre p1 (by rw [e3, List.length_append, l1]; simp), e3, List.getD_eq_getElem?_getD, List.getElem?_append_right (by omega), l1, Nat.sub_self]
  show tell (stand (gs.take k) b) gs[k] = _
  refine tell_congr fun o ho => ?_
  exact (getD_pre p0 (by rw [l1]; exact hl k hk o ho)).symm
theorem stand_low {gs : List (List Nat)} {b : List Nat} {i : Nat} (hi : i < b.length) : (stand gs b).getD i 0 = b.getD i 0 := getD_pre (stand_pre gs b) hi
theorem stand_01 {gs : List (List Nat)} {b : List Nat} (h : ∀ x ∈ b, x = 0 ∨ x = 1) : ∀ x ∈ stand gs b, x = 0 ∨ x = 1 := by
  induction gs generalizing b with
  | nil => exact h
  | cons g gs ih =>
    refine ih fun x hx => ?_
    rcases List.mem_append.mp hx with h' | h'
    · exact h x h'
    · rw [List.mem_singleton.mp h']
      unfold tell
      by_cases c : (g.any fun o => b.getD o 0 == 1) = true
      · rw [if_pos c]; exact .inl rfl
      · rw [if_neg c]; exact .inr rfl
theorem paper_len (N : Net) : (paper N).length = size N := by
  unfold paper
  rw [List.length_map, List.length_range]
theorem paper_at {N : Net} {p : Nat} (h : p < size N) : (paper N).getD p [] = (bits N.1).map fun b => (stand N.2 b).getD p 0 := by
  unfold paper
  rw [List.getD_eq_getElem?_getD, List.getElem?_map, List.getElem?_range h]
  show ((bits N.1).map (stand N.2)).map (fun e => e.getD p 0) = _
  rw [List.map_map] <;> rfl
/-! ### nets made of nets -/
def cut (N : Net) (p o : Nat) : Net := (N.1, N.2.set (p - N.1) ((fr N p).filter (· != o)))
def left (N : Net) (kept : List Nat) : Net := (N.1, (kept.drop N.1).map fun w => ((fr N w).filter (kept.contains ·)).map (kept.idxOf ·))
theorem size_cut (N : Net) (p o : Nat) : size (cut N p o) = size N := by
  unfold size cut
  rw [List.length_set]
theorem fr_cut {N : Net} {p o : Nat} (hp : N.1 ≤ p) (q : Nat) : fr (cut N p o) q = if q = p then (fr N p).filter (· != o) else fr N q := by
  by_cases hq : N.1 ≤ q
  · by_cases e : q = p
    · subst e
      rw [if_pos rfl]
      by_cases hl : q < size N
      · unfold fr cut
        have hk : q - N.1 < N.2.length := by unfold size at hl; omega
        rw [if_pos hq, List.getD_eq_getElem?_getD, List.getElem?_set_self (by simpa using hk)] <;> rfl
      · rw [fr_out (N := cut N q o) (by rw [size_cut]; omega), fr_out (N := N) (by omega)] <;> rfl
    · rw [if_neg e]
      unfold fr cut
      show (if N.1 ≤ q then (N.2.set (p - N.1) _).getD (q - N.1) [] else []) = _
      rw [if_pos hq, if_pos hq, List.getD_eq_getElem?_getD, List.getElem?_set_ne (by omega), List.getD_eq_getElem?_getD]
  · rw [fr_in (N := cut N p o) (by show q < N.1; omega), if_neg (by omega), fr_in (by omega)]
theorem Ok.cut {N : Net} (h : Ok N) {p o : Nat} (hp : N.1 ≤ p) : Ok (cut N p o) := by
  refine ⟨h.lo, h.hi, ?_, fun q => ?_, fun q x hx => ?_⟩
  · show (N.2.set _ _).length ≤ 6
    rw [List.length_set]
    exact h.few
  · rw [fr_cut hp]
    by_cases e : q = p
    · rw [if_pos e]; exact (h.asc p).filter _
    · rw [if_neg e]; exact h.asc q
  · rw [fr_cut hp] at hx
    by_cases e : q = p
    · rw [if_pos e] at hx
      rw [e]
      exact h.less p x (List.mem_filter.mp hx).1
    · rw [if_neg e] at hx
      exact h.less q x hx
/-- kept: ascending, the inputs among them, people all -/
structure Kept (N : Net) (l : List Nat) : Prop where
  asc : l.Pairwise (· < ·)
  low : ∀ i, i < N.1 → i ∈ l
  lt : ∀ x ∈ l, x < size N
theorem size_left {N : Net} {l : List Nat} (K : Kept N l) : size (left N l) = l.length := by
  have := low_len K.asc K.low
  unfold size left
  show N.1 + ((l.drop N.1).map _).length = _
  rw [List.length_map, List.length_drop]
  omega
theorem fr_left {N : Net} {l : List Nat} (K : Kept N l) {x : Nat} (hx : x ∈ l) : fr (left N l) (l.idxOf x) = ((fr N x).filter (l.contains ·)).map (l.idxOf ·) := by
  by_cases c : N.1 ≤ x
  · have h1 := idx_high K.asc K.low hx c
    have h2 := idx_lt hx
    unfold fr left
    show (if N.1 ≤ l.idxOf x then ((l.drop N.1).map fun w => ((fr N w).filter (l.contains ·)).map (l.idxOf ·)).getD (l.idxOf x - N.1) [] else []) = ((fr N x).filter (l.contains ·)).map (l.idxOf ·)
    rw [if_pos h1, List.getD_eq_getElem?_getD, List.getElem?_map, List.getElem?_drop, show N.1 + (l.idxOf x - N.1) = l.idxOf x by omega, List.getElem?_eq_getElem h2, get_idx hx] <;> rfl
  · have e : l.idxOf x = x := idx_low K.asc K.low (by omega)
    rw [e, fr_in (N := left N l) (by show x < N.1; omega), fr_in (by omega)] <;> rfl
theorem of_place {l : List Nat} (h : l.Pairwise (· < ·)) {P : Nat → Prop} (hp : ∀ x ∈ l, P (l.idxOf x)) : ∀ i, i < l.length → P i := fun i hi => by
  have := hp l[i] (List.getElem_mem hi)
  rw [idx_get h hi] at this
  exact this
theorem map_idx_asc {l g : List Nat} (h : l.Pairwise (· < ·)) (hg : g.Pairwise (· < ·)) (hs : ∀ x ∈ g, x ∈ l) : (g.map (l.idxOf ·)).Pairwise (· < ·) := by
  refine List.pairwise_map.mpr ?_
  induction g with
  | nil => exact List.Pairwise.nil
  | cons a g ih =>
    have hg' := List.pairwise_cons.mp hg
    refine List.pairwise_cons.mpr ⟨fun b hb => ?_, ih hg'.2 fun x hx => hs x (List.mem_cons_of_mem _ hx)⟩
    exact (idx_mono h (hs a List.mem_cons_self) (hs b (List.mem_cons_of_mem _ hb))).mpr (hg'.1 b hb)
theorem Ok.left {N : Net} (h : Ok N) {l : List Nat} (K : Kept N l) : Ok (left N l) := by
  have hz := size_left K
  have hl : l.length ≤ Nt.size N := asc_len K.asc K.lt
  have hfew : (Nt.left N l).2.length ≤ 6 := by
    have := h.few
    unfold Nt.size at hz hl
    have e : (Nt.left N l).1 = N.1 := rfl
    omega
  have key : ∀ p, fr (Nt.left N l) p = [] ∨ ∃ x ∈ l, p = l.idxOf x := fun p => by
    by_cases c : p < Nt.size (Nt.left N l)
    · rw [hz] at c
      exact .inr ⟨l[p], List.getElem_mem c, (idx_get K.asc c).symm⟩
    · exact .inl (fr_out (by omega))
  refine ⟨h.lo, h.hi, hfew, fun p => ?_, fun p o ho => ?_⟩
  · rcases key p with e | ⟨x, hx, rfl⟩
    · rw [e]; exact List.Pairwise.nil
    · rw [fr_left K hx]
      exact map_idx_asc K.asc ((h.asc x).filter _) fun y hy => List.contains_iff_mem.mp (List.mem_filter.mp hy).2
  · rcases key p with e | ⟨x, hx, rfl⟩
    · rw [e] at ho; cases ho
    · rw [fr_left K hx] at ho
      obtain ⟨y, hy, rfl⟩ := List.mem_map.mp ho
      obtain ⟨h1, h2⟩ := List.mem_filter.mp hy
      exact (idx_mono K.asc (List.contains_iff_mem.mp h2) hx).mpr (h.less x y h1)
theorem Ans.left {N : Net} {l as : List Nat} (K : Kept N l) (A : Ans N as) (hs : ∀ a ∈ as, a ∈ l) : Ans (left N l) (as.map (l.idxOf ·)) := by
  refine ⟨fun e => A.ne (List.map_eq_nil_iff.mp e), map_idx_asc K.asc A.asc hs, fun a ha => ?_⟩
  obtain ⟨b, hb, rfl⟩ := List.mem_map.mp ha
  rw [size_left K]
  exact idx_lt (hs b hb)
/-! ### who is kept stands as before -/
structure Closed (N : Net) (l : List Nat) : Prop where
  kept : Kept N l
  up : ∀ x ∈ l, ∀ o ∈ fr N x, o ∈ l
theorem stand_fr {N : Net} (h : Ok N) {b : List Nat} (hb : b.length = N.1) {p : Nat} (h1 : N.1 ≤ p) (h2 : p < size N) : (stand N.2 b).getD p 0 = tell (stand N.2 b) (fr N p) := by
  have hk : p - N.1 < N.2.length := by unfold size at h2; omega
  have e := stand_at (gs := N.2) (b := b) (fun k hk o ho => by rw [hb]; exact h.at_less hk ho) hk
  rw [hb, show N.1 + (p - N.1) = p by omega] at e
  rw [e, ← fr_at hk, show N.1 + (p - N.1) = p by omega]
theorem tell_map {acc acc' g : List Nat} {f : Nat → Nat} (h : ∀ o ∈ g, acc.getD (f o) 0 = acc'.getD o 0) : tell acc (g.map f) = tell acc' g := by
  unfold tell
  have e : ((g.map f).any fun o => acc.getD o 0 == 1) = (g.any fun o => acc'.getD o 0 == 1) := by
    induction g with
    | nil => rfl
    | cons a g ih =>
      rw [List.map_cons, List.any_cons, List.any_cons, ih fun o ho => h o (List.mem_cons_of_mem _ ho), h a List.mem_cons_self]
  rw [e]
theorem filter_all {l g : List Nat} (h : ∀ o ∈ g, o ∈ l) : g.filter (l.contains ·) = g := List.filter_eq_self.mpr fun o ho => List.contains_iff_mem.mpr (h o ho)
theorem stand_left {N : Net} (h : Ok N) {l : List Nat} (C : Closed N l) {b : List Nat} (hb : b.length = N.1) : ∀ x, x ∈ l → (stand (left N l).2 b).getD (l.idxOf x) 0 = (stand N.2 b).getD x 0 := by
  intro x
  induction x using Nat.strongRecOn with
  | _ x ih =>
    intro hx
    by_cases c : N.1 ≤ x
    · have h1 := idx_high C.kept.asc C.kept.low hx c
      have h2 : l.idxOf x < size (left N l) := by rw [size_left C.kept]; exact idx_lt hx
      rw [stand_fr (h.left C.kept) (b := b) hb h1 h2, stand_fr h hb c (C.kept.lt x hx), fr_left C.kept hx, filter_all (C.up x hx)]
      exact tell_map fun o ho => ih o (h.less x o ho) (C.up x hx o ho)
    · have e : l.idxOf x = x := idx_low C.kept.asc C.kept.low (by omega)
      rw [e, stand_low (by omega), stand_low (by omega)]
theorem tabs_left {N : Net} (h : Ok N) {l : List Nat} (C : Closed N l) {as : List Nat} (hs : ∀ a ∈ as, a ∈ l) : tabs (left N l) (as.map (l.idxOf ·)) = tabs N as := by
  unfold tabs
  rw [List.map_map]
  refine List.map_congr_left fun a ha => ?_
  have hx := hs a ha
  show (paper (left N l)).getD (l.idxOf a) [] = (paper N).getD a []
  rw [paper_at (by rw [size_left C.kept]; exact idx_lt hx), paper_at (C.kept.lt a hx)]
  refine List.map_congr_left fun b hb => ?_
  exact stand_left h C (bits_len hb) a hx
/-! ### friendships without need -/
def nlAt (N : Net) (as : List Nat) (p : Nat) : List (Nat × Nat) := ((fr N p).filter fun o => tabs (cut N p o) as == tabs N as).map fun o => (p, o)
def needless (N : Net) (as : List Nat) : List (Nat × Nat) := (List.range N.2.length).flatMap fun k => nlAt N as (N.1 + k)
theorem mem_needless {N : Net} {as : List Nat} {q : Nat × Nat} : q ∈ needless N as ↔ N.1 ≤ q.1 ∧ q.1 < size N ∧ q.2 ∈ fr N q.1 ∧ tabs (cut N q.1 q.2) as = tabs N as := by
  unfold needless nlAt
  rw [List.mem_flatMap]
  constructor
  · rintro ⟨k, hk, h⟩
    obtain ⟨o, ho, e⟩ := List.mem_map.mp h
    obtain ⟨h1, h2⟩ := List.mem_filter.mp ho
    have hk' := List.mem_range.mp hk
    cases e
    unfold size
    exact ⟨Nat.le_add_right _ _, by show N.1 + k < _; omega, h1, eq_of_beq h2⟩
  · rintro ⟨h1, h2, h3, h4⟩
    unfold size at h2
    refine ⟨q.1 - N.1, List.mem_range.mpr (by omega), List.mem_map.mpr ⟨q.2, List.mem_filter.mpr ⟨?_, ?_⟩, ?_⟩⟩
    · rw [show N.1 + (q.1 - N.1) = q.1 by omega]; exact h3
    · rw [show N.1 + (q.1 - N.1) = q.1 by omega]; exact beq_iff_eq.mpr h4
    · rw [show N.1 + (q.1 - N.1) = q.1 by omega]
def step (N : Net) (as : List Nat) : Net := match needless N as with
  | [] => N
  | q :: _ => cut N q.1 q.2
def thinG (as : List Nat) : Nat → Net → Net
  | 0, N => N
  | k + 1, N => step (thinG as k N) as
def count (N : Net) : Nat := (N.2.map (·.length)).sum
theorem sum_set_le {l : List (List Nat)} {i : Nat} {g : List Nat} (hi : i < l.length) (hg : g.length < l[i].length) : ((l.set i g).map (·.length)).sum < (l.map (·.length)).sum := by
  induction l generalizing i with
  | nil => simp at hi
  | cons a l ih =>
    cases i with
    | zero =>
      simp at hg ⊢
      exact hg
    | succ i =>
      have := ih (i := i) (by simpa using hi) (by simpa using hg)
      simp at this ⊢
      omega
theorem count_cut {N : Net} {p o : Nat} (hp : N.1 ≤ p) (ho : o ∈ fr N p) : count (cut N p o) < count N := by
  have h2 : p < size N := Nat.lt_of_not_le fun c => by rw [fr_out c] at ho; cases ho
  have hk : p - N.1 < N.2.length := by unfold size at h2; omega
  have e : fr N p = N.2[p - N.1] := by rw [← fr_at hk, show N.1 + (p - N.1) = p by omega]
  refine sum_set_le hk ?_
  rw [← e]
  refine Nat.lt_of_le_of_ne (List.length_filter_le _ _) fun q => ?_
  have := List.length_filter_eq_length_iff.mp q o ho
  simp at this
theorem count_le {N : Net} (h : Ok N) : count N ≤ 33 := by
  have hf := h.few
  have hi := h.hi
  have key : ∀ k (hk : k < N.2.length), (N.2[k]).length ≤ N.1 + k := fun k hk => by
    rw [← fr_at hk]
    exact h.frlen _
  unfold count
  generalize hl : N.2 = l at *
  match l, hf, key with
  | [], _, _ => simp
  | [a], _, key =>
    have := key 0 (by simp); simp at *; omega
  | [a, b], _, key =>
    have := key 0 (by simp); have := key 1 (by simp); simp at *; omega
  | [a, b, c], _, key =>
    have := key 0 (by simp); have := key 1 (by simp); have := key 2 (by simp); simp at *; omega
  | [a, b, c, d], _, key =>
    have := key 0 (by simp); have := key 1 (by simp); have := key 2 (by simp); have := key 3 (by simp); simp at *; omega
  | [a, b, c, d, e], _, key =>
    have := key 0 (by simp); have := key 1 (by simp); have := key 2 (by simp); have := key 3 (by simp); have := key 4 (by simp); simp at *; omega
  | [a, b, c, d, e, f], _, key =>
    have := key 0 (by simp); have := key 1 (by simp); have := key 2 (by simp); have := key 3 (by simp); have := key 4 (by simp); have := key 5 (by simp); simp at *; omega
  | _ :: _ :: _ :: _ :: _ :: _ :: _ :: _, hf, _ => simp at hf
/-- what a net and its thinner ones have in common -/
structure Like (N M : Net) (as : List Nat) : Prop where
  ok : Ok M
  ins : M.1 = N.1
  gates : M.2.length = N.2.length
  tabs : tabs M as = tabs N as
theorem Like.refl {N : Net} (h : Ok N) (as : List Nat) : Like N N as := ⟨h, rfl, rfl, rfl⟩
theorem Like.size {N M : Net} {as : List Nat} (L : Like N M as) : size M = size N := by
  unfold Nt.size
  rw [L.ins, L.gates]
theorem Like.cut {N M : Net} {as : List Nat} (L : Like N M as) {q : Nat × Nat} (hq : q ∈ needless M as) : Like N (cut M q.1 q.2) as := by
  obtain ⟨h1, h2, h3, h4⟩ := mem_needless.mp hq
  refine ⟨L.ok.cut h1, L.ins, ?_, h4.trans L.tabs⟩
  show (M.2.set _ _).length = _
  rw [List.length_set]
  exact L.gates
theorem Like.step {N M : Net} {as : List Nat} (L : Like N M as) : Like N (step M as) as := by
  unfold Nt.step
  cases e : needless M as with
  | nil => exact L
  | cons q r => exact L.cut (by rw [e]; exact List.mem_cons_self)
theorem like_thin {N : Net} (h : Ok N) (as : List Nat) : ∀ k, Like N (thinG as k N) as
  | 0 => .refl h as
  | k + 1 => (like_thin h as k).step
theorem thin_count {N : Net} (h : Ok N) (as : List Nat) : ∀ k, needless (thinG as k N) as = [] ∨ count (thinG as k N) + k ≤ count N
  | 0 => .inr (Nat.le_refl _)
  | k + 1 => by
    show needless (step (thinG as k N) as) as = [] ∨ count (step (thinG as k N) as) + (k + 1) ≤ count N
    unfold step
    cases e : needless (thinG as k N) as with
    | nil => exact .inl e
    | cons q r =>
      rcases thin_count h as k with z | z
      · rw [e] at z; cases z
      · right
        obtain ⟨h1, h2, h3, h4⟩ := mem_needless.mp (show q ∈ needless (thinG as k N) as by rw [e]; exact List.mem_cons_self)
        have := count_cut h1 h3
        show count (cut (thinG as k N) q.1 q.2) + (k + 1) ≤ count N
        omega
theorem thin_done {N : Net} (h : Ok N) (as : List Nat) : needless (thinG as 40 N) as = [] := by
  rcases thin_count h as 40 with z | z
  · exact z
  · have := count_le h
    omega
theorem thin_stop {N : Net} (as : List Nat) : ∀ {k : Nat}, needless (thinG as k N) as = [] → ∀ j, thinG as (k + j) N = thinG as k N
  | k, h, 0 => rfl
  | k, h, j + 1 => by
    show step (thinG as (k + j) N) as = _
    rw [thin_stop as h j]
    unfold step
    rw [h]
def thin (N : Net) (as : List Nat) : Net := thinG as 40 N
theorem thin_eq {N : Net} (h : Ok N) {as : List Nat} {k : Nat} (hk : needless (thinG as k N) as = []) : thinG as k N = thin N as := by
  unfold thin
  by_cases c : k ≤ 40
  · have := thin_stop (N := N) as hk (40 - k)
    rw [show k + (40 - k) = 40 by omega] at this
    exact this.symm
  · have := thin_stop (N := N) as (thin_done h as) (k - 40)
    rw [show 40 + (k - 40) = k by omega] at this
    exact this
/-! ### who comes from whom -/
inductive Reach (N : Net) (as : List Nat) : Nat → Prop
  | base {a : Nat} : a ∈ as → Reach N as a
  | step {q o : Nat} : Reach N as q → o ∈ fr N q → Reach N as o
noncomputable def dec (p : Prop) : Bool := @decide p (Classical.propDecidable p)
theorem dec_iff {p : Prop} : dec p = true ↔ p := by
  unfold dec
  exact @decide_eq_true_iff p (Classical.propDecidable p)
noncomputable def up (N : Net) (as : List Nat) : List Nat := (List.range (size N)).filter fun p => dec (Reach N as p)
noncomputable def keep (N : Net) (as : List Nat) : List Nat := (List.range (size N)).filter fun p => dec (p < N.1 ∨ Reach N as p)
theorem mem_up {N : Net} {as : List Nat} {p : Nat} : p ∈ up N as ↔ p < size N ∧ Reach N as p := by
  unfold up
  rw [List.mem_filter, List.mem_range, dec_iff]
theorem mem_keep {N : Net} {as : List Nat} {p : Nat} : p ∈ keep N as ↔ p < size N ∧ (p < N.1 ∨ Reach N as p) := by
  unfold keep
  rw [List.mem_filter, List.mem_range, dec_iff]
theorem up_asc (N : Net) (as : List Nat) : (up N as).Pairwise (· < ·) := (asc_range _).filter _
theorem keep_asc (N : Net) (as : List Nat) : (keep N as).Pairwise (· < ·) := (asc_range _).filter _
theorem Reach.lt {N : Net} (h : Ok N) {as : List Nat} (A : ∀ a ∈ as, a < size N) {p : Nat} (r : Reach N as p) : p < size N := by
  induction r with
  | base ha => exact A _ ha
  | step r ho ih =>
    have := h.less _ _ ho
    omega
theorem keep_closed {N : Net} (h : Ok N) {as : List Nat} (A : ∀ a ∈ as, a < size N) : Closed N (keep N as) := by
  refine ⟨⟨keep_asc N as, fun i hi => mem_keep.mpr ⟨by unfold size; omega, .inl hi⟩, fun x hx => (mem_keep.mp hx).1⟩, fun x hx o ho => ?_⟩
  obtain ⟨h1, h2⟩ := mem_keep.mp hx
  have hlt := h.less x o ho
  refine mem_keep.mpr ⟨by omega, .inr ?_⟩
  rcases h2 with h2 | h2
  · rw [fr_in h2] at ho; cases ho
  · exact h2.step ho
theorem ans_keep {N : Net} {as : List Nat} (A : ∀ a ∈ as, a < size N) : ∀ a ∈ as, a ∈ keep N as := fun a ha => mem_keep.mpr ⟨A a ha, .inr (.base ha)⟩
/-! ### the thinned net is thin -/
theorem cut_left {N : Net} (h : Ok N) {l : List Nat} (C : Closed N l) {p o : Nat} (hp : p ∈ l) (hg : N.1 ≤ p) (ho : o ∈ fr N p) :
    cut (left N l) (l.idxOf p) (l.idxOf o) = left (cut N p o) l := by
  have K := C.kept
  have hol : o ∈ l := C.up p hp o ho
  have h1 := idx_high K.asc K.low hp hg
  have h2 := idx_lt hp
  refine Prod.ext rfl ?_
  show (left N l).2.set (l.idxOf p - N.1) ((fr (left N l) (l.idxOf p)).filter (· != l.idxOf o)) = (l.drop N.1).map fun w => ((fr (cut N p o) w).filter (l.contains ·)).map (l.idxOf ·)
  have hlen : (left N l).2.length = l.length - N.1 := by
    show ((l.drop N.1).map _).length = _
    rw [List.length_map, List.length_drop]
  refine List.ext_getElem ?_ fun i hi hi' => ?_
  · rw [List.length_set, hlen, List.length_map, List.length_drop]
  · rw [List.length_set, hlen] at hi
    rw [List.getElem_map, List.getElem_drop]
    have hiN : N.1 + i < l.length := by omega
    rw [fr_cut hg]
    by_cases e : i = l.idxOf p - N.1
    · subst e
      rw [List.getElem_set_self]
      have e2 : l[N.1 + (l.idxOf p - N.1)]'hiN = p := by
        have e3 : N.1 + (l.idxOf p - N.1) = l.idxOf p := by omega
        simp only [e3]
        exact get_idx hp
      rw [if_pos e2, fr_left K hp, filter_all (C.up p hp), filter_all fun x hx => C.up p hp x (List.mem_filter.mp hx).1, List.filter_map]
      refine congrArg (List.map (l.idxOf ·)) (List.filter_congr fun x hx => ?_)
      show (l.idxOf x != l.idxOf o) = (x != o)
      by_cases c : x = o
      · rw [c]; simp
      · rw [bne_iff_ne.mpr c]
        exact bne_iff_ne.mpr fun q => c (idx_inj (C.up p hp x hx) hol q)
    · rw [List.getElem_set_ne (by omega)]
      have e2 : l[N.1 + i] ≠ p := fun q => by
        have := idx_get K.asc hiN
        rw [q] at this
        omega
      rw [if_neg e2]
      simp only [left, List.getElem_map, List.getElem_drop]
theorem closed_cut {N : Net} {l : List Nat} (C : Closed N l) {p o : Nat} (hg : N.1 ≤ p) : Closed (cut N p o) l := by
  refine ⟨⟨C.kept.asc, C.kept.low, fun x hx => by rw [size_cut]; exact C.kept.lt x hx⟩, fun x hx y hy => ?_⟩
  rw [fr_cut hg] at hy
  by_cases e : x = p
  · rw [if_pos e] at hy
    subst e
    exact C.up x hx y (List.mem_filter.mp hy).1
  · rw [if_neg e] at hy
    exact C.up x hx y hy
theorem needless_left {N : Net} (h : Ok N) {l : List Nat} (C : Closed N l) {as : List Nat} (hs : ∀ a ∈ as, a ∈ l) (hn : needless N as = []) : needless (left N l) (as.map (l.idxOf ·)) = [] := by
  refine List.eq_nil_iff_forall_not_mem.mpr fun q hq => ?_
  obtain ⟨h1, h2, h3, h4⟩ := mem_needless.mp hq
  obtain ⟨i, j⟩ := q
  dsimp only at h1 h2 h3 h4
  rw [size_left C.kept] at h2
  have hp : l[i] ∈ l := List.getElem_mem h2
  have ei : l.idxOf l[i] = i := idx_get C.kept.asc h2
  have hg : N.1 ≤ l[i] := high_get C.kept.asc C.kept.low h2 h1
  rw [← ei, fr_left C.kept hp, filter_all (C.up _ hp)] at h3
  obtain ⟨o, ho, ej⟩ := List.mem_map.mp h3
  rw [← ei, ← ej, cut_left h C hp hg ho, tabs_left (h.cut hg) (closed_cut C hg) hs, tabs_left h C hs] at h4
  have : (l[i], o) ∈ needless N as := mem_needless.mpr ⟨hg, C.kept.lt _ hp, ho, h4⟩
  rw [hn] at this
  cases this
theorem reach_left {N : Net} {l : List Nat} (C : Closed N l) {as : List Nat} (hs : ∀ a ∈ as, a ∈ l) {p : Nat} (r : Reach N as p) : p ∈ l ∧ Reach (left N l) (as.map (l.idxOf ·)) (l.idxOf p) := by
  induction r with
  | base ha => exact ⟨hs _ ha, .base (List.mem_map.mpr ⟨_, ha, rfl⟩)⟩
  | step r ho ih =>
    obtain ⟨h1, h2⟩ := ih
    refine ⟨C.up _ h1 _ ho, h2.step ?_⟩
    rw [fr_left C.kept h1, filter_all (C.up _ h1)]
    exact List.mem_map.mpr ⟨_, ho, rfl⟩
/-- all people of what is kept for the answers are kept for them -/
theorem keep_left {N : Net} (h : Ok N) {as : List Nat} (A : ∀ a ∈ as, a < size N) {i : Nat} (h1 : N.1 ≤ i) (h2 : i < (keep N as).length) : Reach (left N (keep N as)) (as.map ((keep N as).idxOf ·)) i := by
  have C := keep_closed h A
  have hp : (keep N as)[i] ∈ keep N as := List.getElem_mem h2
  have hg := high_get C.kept.asc C.kept.low h2 h1
  rcases (mem_keep.mp hp).2 with c | c
  · omega
  · have := (reach_left C (ans_keep A) c).2
    rw [idx_get C.kept.asc h2] at this
    exact this
end Nt
end

section
set_option maxHeartbeats 4000000
namespace Nt
/-! ### keys that grow -/
def put (ks : List Nat) (k : Nat) : List Nat := if k ∈ ks then ks else ks ++ [k]
theorem mem_put {ks : List Nat} {k x : Nat} : x ∈ put ks k ↔ x ∈ ks ∨ x = k := by
  unfold put
  by_cases c : k ∈ ks
  · rw [if_pos c]
    exact ⟨.inl, fun h => h.elim id fun e => e ▸ c⟩
  · rw [if_neg c, List.mem_append, List.mem_singleton]
theorem nodup_put {ks : List Nat} {k : Nat} (h : ks.Nodup) : (put ks k).Nodup := by
  unfold put
  by_cases c : k ∈ ks
  · rw [if_pos c]; exact h
  · rw [if_neg c, List.nodup_append]
    exact ⟨h, by simp, fun a ha b hb e => c (by rw [List.mem_singleton.mp hb] at e; exact e ▸ ha)⟩
def puts (ks l : List Nat) : List Nat := l.foldl put ks
theorem mem_puts {x : Nat} : ∀ {l ks : List Nat}, x ∈ puts ks l ↔ x ∈ ks ∨ x ∈ l
  | [], ks => by simp [puts]
  | a :: l, ks => by
    show x ∈ puts (put ks a) l ↔ _
    rw [mem_puts, mem_put, List.mem_cons, or_assoc]
theorem nodup_puts : ∀ {l ks : List Nat}, ks.Nodup → (puts ks l).Nodup
  | [], ks, h => h
  | a :: l, ks, h => nodup_puts (l := l) (nodup_put h)
theorem puts_take {l ks : List Nat} {i : Nat} (h : i < l.length) : puts ks (l.take (i + 1)) = put (puts ks (l.take i)) l[i] := by
  unfold puts
  rw [List.take_add_one, List.getElem?_eq_getElem h, List.foldl_append] <;> rfl
theorem few_keys {ks : List Nat} {m : Nat} (h : ks.Nodup) (hm : ∀ x ∈ ks, x < m) : ks.length ≤ m ∧ (sd m ks).Perm ks := by
  have p : (sd m ks).Perm ks := (List.perm_ext_iff_of_nodup (asc_nodup (sd_asc m ks)) h).mpr fun x => by
    rw [mem_sd]
    exact ⟨fun q => q.2, fun q => ⟨hm x q, q⟩⟩
  refine ⟨?_, p⟩
  rw [← p.length_eq]
  exact asc_len (sd_asc m ks) fun x hx => (mem_sd.mp hx).1
/-! ### the pass from the tallest down -/
def dstep (N : Net) (as ks : List Nat) (p : Nat) : List Nat := if p ∈ as ∨ p ∈ ks then puts (put ks p) (fr N p) else ks
def dpass (N : Net) (as : List Nat) : Nat → List Nat
  | 0 => []
  | i + 1 => dstep N as (dpass N as i) (size N - 1 - i)
theorem dpass_inv {N : Net} (h : Ok N) {as : List Nat} (A : ∀ a ∈ as, a < size N) : ∀ i, i ≤ size N →
    (dpass N as i).Nodup ∧ (∀ x ∈ dpass N as i, Reach N as x) ∧ ∀ p, size N - i ≤ p → p < size N → Reach N as p → p ∈ dpass N as i ∧ ∀ o ∈ fr N p, o ∈ dpass N as i
  | 0, _ => ⟨List.nodup_nil, by simp [dpass], fun p h1 h2 _ => by omega⟩
  | i + 1, hi => by
    obtain ⟨i1, i2, i3⟩ := dpass_inv h A i (by omega)
    have hm : ∃ m, m = size N - 1 - i := ⟨_, rfl⟩
    obtain ⟨m, hm⟩ := hm
    have e : dpass N as (i + 1) = dstep N as (dpass N as i) m := by rw [hm]; rfl
    rw [e]
    unfold dstep
    by_cases c : m ∈ as ∨ m ∈ dpass N as i
    · rw [if_pos c]
      have rm : Reach N as m := c.elim .base (i2 m)
      refine ⟨nodup_puts (nodup_put i1), fun x hx => ?_, fun p h1 h2 r => ?_⟩
      · rcases mem_puts.mp hx with q | q
        · rcases mem_put.mp q with q | q
          · exact i2 x q
          · rw [q]; exact rm
        · exact rm.step q
      · by_cases e : p = m
        · subst e
          exact ⟨mem_puts.mpr (.inl (mem_put.mpr (.inr rfl))), fun o ho => mem_puts.mpr (.inr ho)⟩
        · obtain ⟨q1, q2⟩ := i3 p (by omega) h2 r
          exact ⟨mem_puts.mpr (.inl (mem_put.mpr (.inl q1))), fun o ho => mem_puts.mpr (.inl (mem_put.mpr (.inl (q2 o ho))))⟩
    · rw [if_neg c]
      refine ⟨i1, i2, fun p h1 h2 r => ?_⟩
      by_cases e : p = m
      · exfalso
        refine c ?_
        rw [← e]
        cases r with
        | base ha => exact .inl ha
        | step r' ho => exact .inr ((i3 _ (by
            have := h.less _ _ ho
            omega) (Reach.lt h A r') r').2 p ho)
      · exact i3 p (by omega) h2 r
theorem dpass_up {N : Net} (h : Ok N) {as : List Nat} (A : ∀ a ∈ as, a < size N) : (up N as).Perm (dpass N as (size N)) ∧ (dpass N as (size N)).length ≤ 9 := by
  obtain ⟨i1, i2, i3⟩ := dpass_inv h A (size N) (Nat.le_refl _)
  have p : (up N as).Perm (dpass N as (size N)) := (List.perm_ext_iff_of_nodup (asc_nodup (up_asc N as)) i1).mpr fun x => by
    rw [mem_up]
    exact ⟨fun q => (i3 x (by omega) q.1 q.2).1, fun q => ⟨Reach.lt h A (i2 x q), i2 x q⟩⟩
  refine ⟨p, ?_⟩
  rw [← p.length_eq]
  exact Nat.le_trans (asc_len (up_asc N as) fun x hx => (mem_up.mp hx).1) h.size
theorem dpass_few {N : Net} (h : Ok N) {as : List Nat} (A : ∀ a ∈ as, a < size N) {i : Nat} (hi : i ≤ size N) : (dpass N as i).Nodup ∧ (dpass N as i).length ≤ 9 ∧ ∀ x ∈ dpass N as i, x < size N := by
  obtain ⟨i1, i2, _⟩ := dpass_inv h A i hi
  have hl : ∀ x ∈ dpass N as i, x < size N := fun x hx => Reach.lt h A (i2 x hx)
  exact ⟨i1, Nat.le_trans (few_keys i1 hl).1 h.size, hl⟩
/-! ### the law's passes -/
def lfold (N : Net) (ks l : List Nat) : List Nat := l.foldl (fun acc w => puts acc (fr N w)) ks
theorem mem_lfold {N : Net} {x : Nat} : ∀ {l ks : List Nat}, x ∈ lfold N ks l ↔ x ∈ ks ∨ ∃ w ∈ l, x ∈ fr N w
  | [], ks => by simp [lfold]
  | a :: l, ks => by
    show x ∈ lfold N (puts ks (fr N a)) l ↔ _
    rw [mem_lfold, mem_puts]
    constructor
    · rintro ((h | h) | ⟨w, h1, h2⟩)
      · exact .inl h
      · exact .inr ⟨a, List.mem_cons_self, h⟩
      · exact .inr ⟨w, List.mem_cons_of_mem _ h1, h2⟩
    · rintro (h | ⟨w, h1, h2⟩)
      · exact .inl (.inl h)
      · rcases List.mem_cons.mp h1 with e | h1
        · subst e; exact .inl (.inr h2)
        · exact .inr ⟨w, h1, h2⟩
theorem nodup_lfold {N : Net} : ∀ {l ks : List Nat}, ks.Nodup → (lfold N ks l).Nodup
  | [], ks, h => h
  | a :: l, ks, h => nodup_lfold (l := l) (nodup_puts h)
theorem lfold_take {N : Net} {l ks : List Nat} {i : Nat} (h : i < l.length) : lfold N ks (l.take (i + 1)) = puts (lfold N ks (l.take i)) (fr N l[i]) := by
  unfold lfold
  rw [List.take_add_one, List.getElem?_eq_getElem h, List.foldl_append] <;> rfl
def lpass (N : Net) (as : List Nat) : Nat → List Nat
  | 0 => puts [] (as ++ List.range N.1)
  | t + 1 => lfold N (lpass N as t) (sd (size N) (lpass N as t))
theorem lpass_inv {N : Net} (h : Ok N) {as : List Nat} (A : ∀ a ∈ as, a < size N) : ∀ t,
    (lpass N as t).Nodup ∧ (∀ x ∈ lpass N as t, x < size N ∧ (x < N.1 ∨ Reach N as x)) ∧ (∀ x, x ∈ as ∨ x < N.1 → x ∈ lpass N as t) ∧ ∀ p, size N - t ≤ p → Reach N as p → p ∈ lpass N as t
  | 0 => by
    refine ⟨nodup_puts List.nodup_nil, fun x hx => ?_, fun x hx => ?_, fun p h1 r => ?_⟩
    · rcases mem_puts.mp hx with q | q
      · cases q
      · rcases List.mem_append.mp q with q | q
        · exact ⟨A x q, .inr (.base q)⟩
        · have := List.mem_range.mp q
          exact ⟨by unfold size; omega, .inl this⟩
    · refine mem_puts.mpr (.inr (List.mem_append.mpr ?_))
      exact hx.imp id List.mem_range.mpr
    · have := Reach.lt h A r
      omega
  | t + 1 => by
    obtain ⟨i1, i2, i3, i4⟩ := lpass_inv h A t
    refine ⟨nodup_lfold i1, fun x hx => ?_, fun x hx => mem_lfold.mpr (.inl (i3 x hx)), fun p h1 r => ?_⟩
    · rcases mem_lfold.mp hx with q | ⟨w, q1, q2⟩
      · exact i2 x q
      · have q3 := (mem_sd.mp q1).2
        obtain ⟨q4, q5⟩ := i2 w q3
        have := h.less w x q2
        refine ⟨by omega, ?_⟩
        rcases q5 with q5 | q5
        · exact .inl (by omega)
        · exact .inr (q5.step q2)
    · cases r with
      | base ha => exact mem_lfold.mpr (.inl (i3 p (.inl ha)))
      | step r' ho =>
        have l1 := h.less _ _ ho
        have l2 := Reach.lt h A r'
        exact mem_lfold.mpr (.inr ⟨_, mem_sd.mpr ⟨l2, i4 _ (by omega) r'⟩, ho⟩)
theorem lpass_few {N : Net} (h : Ok N) {as : List Nat} (A : ∀ a ∈ as, a < size N) (t : Nat) : (lpass N as t).Nodup ∧ (lpass N as t).length ≤ 9 ∧ ∀ x ∈ lpass N as t, x < size N := by
  obtain ⟨i1, i2, _⟩ := lpass_inv h A t
  have hl : ∀ x ∈ lpass N as t, x < size N := fun x hx => (i2 x hx).1
  exact ⟨i1, Nat.le_trans (few_keys i1 hl).1 h.size, hl⟩
theorem lpass_keep {N : Net} (h : Ok N) {as : List Nat} (A : ∀ a ∈ as, a < size N) : (keep N as).Perm (lpass N as 12) := by
  obtain ⟨i1, i2, i3, i4⟩ := lpass_inv h A 12
  have h9 := h.size
  exact (List.perm_ext_iff_of_nodup (asc_nodup (keep_asc N as)) i1).mpr fun x => by
    rw [mem_keep]
    exact ⟨fun q => q.2.elim (fun q2 => i3 x (.inr q2)) fun q2 => i4 x (by omega) q2, fun q => i2 x q⟩
/-- what a part of a pass has -/
theorem lpart_few {N : Net} (h : Ok N) {as : List Nat} (A : ∀ a ∈ as, a < size N) (t : Nat) {l g : List Nat} (hg : ∀ x ∈ g, x < size N) : (puts (lfold N (lpass N as t) l) g).length ≤ 9 ∨ ∃ w ∈ l, ∃ o ∈ fr N w, size N ≤ o := by
  obtain ⟨i1, _, i2⟩ := lpass_few h A t
  by_cases c : ∃ w ∈ l, ∃ o ∈ fr N w, size N ≤ o
  · exact .inr c
  · refine .inl (Nat.le_trans (few_keys (nodup_puts (nodup_lfold i1)) fun x hx => ?_).1 h.size)
    rcases mem_puts.mp hx with q | q
    · rcases mem_lfold.mp q with q | ⟨w, q1, q2⟩
      · exact i2 x q
      · exact Nat.lt_of_not_le fun z => c ⟨w, q1, x, q2, z⟩
    · exact hg x q
theorem fr_lt {N : Net} (h : Ok N) {p o : Nat} (ho : o ∈ fr N p) : o < size N := by
  by_cases c : p < size N
  · have := h.less p o ho
    omega
  · rw [fr_out (by omega)] at ho
    cases ho
/-! ### tied -/
def tie (N : Net) (p o : Nat) : Net := (N.1, N.2.set (p - N.1) (sd p (o :: fr N p)))
theorem size_tie (N : Net) (p o : Nat) : size (tie N p o) = size N := by
  unfold size tie
  rw [List.length_set]
theorem fr_tie {N : Net} {p o : Nat} (hp : N.1 ≤ p) (h2 : p < size N) (q : Nat) : fr (tie N p o) q = if q = p then sd p (o :: fr N p) else fr N q := by
  have hk : p - N.1 < N.2.length := by unfold size at h2; omega
  by_cases hq : N.1 ≤ q
  · by_cases e : q = p
    · subst e
      rw [if_pos rfl]
      unfold fr tie
      rw [if_pos hq, List.getD_eq_getElem?_getD, List.getElem?_set_self (by simpa using hk)] <;> rfl
    · rw [if_neg e]
      unfold fr tie
      show (if N.1 ≤ q then (N.2.set (p - N.1) _).getD (q - N.1) [] else []) = _
      rw [if_pos hq, if_pos hq, List.getD_eq_getElem?_getD, List.getElem?_set_ne (by omega), List.getD_eq_getElem?_getD]
  · rw [if_neg (by omega)]
    unfold fr tie
    rw [if_neg hq, if_neg hq]
theorem Ok.tie {N : Net} (h : Ok N) {p o : Nat} (hp : N.1 ≤ p) (h2 : p < Nt.size N) : Ok (tie N p o) := by
  refine ⟨h.lo, h.hi, by show (N.2.set _ _).length ≤ 6; rw [List.length_set]; exact h.few, fun q => ?_, fun q x hx => ?_⟩
  · rw [fr_tie hp h2]
    by_cases e : q = p
    · rw [if_pos e]; exact sd_asc _ _
    · rw [if_neg e]; exact h.asc q
  · rw [fr_tie hp h2] at hx
    by_cases e : q = p
    · rw [if_pos e] at hx
      rw [e]
      exact (mem_sd.mp hx).1
    · rw [if_neg e] at hx
      exact h.less q x hx
theorem sd_cut {N : Net} (h : Ok N) {p o : Nat} (ho : o ∉ fr N p) : (sd p (o :: fr N p)).filter (· != o) = fr N p :=
  asc_ext ((sd_asc _ _).filter _) (h.asc p) fun x => by
    rw [List.mem_filter, mem_sd, List.mem_cons, bne_iff_ne]
    constructor
    · rintro ⟨⟨h1, h2⟩, h3⟩
      exact h2.resolve_left h3
    · intro hx
      exact ⟨⟨h.less p x hx, .inr hx⟩, fun e => ho (e ▸ hx)⟩
theorem cut_tie {N : Net} (h : Ok N) {p o : Nat} (hp : N.1 ≤ p) (h2 : p < size N) (ho : o ∉ fr N p) : cut (tie N p o) p o = N := by
  have hk : p - N.1 < N.2.length := by unfold size at h2; omega
  unfold cut
  rw [fr_tie hp h2, if_pos rfl, sd_cut h ho]
  refine Prod.ext rfl ?_
  show (N.2.set (p - N.1) _).set (p - N.1) (fr N p) = N.2
  have e := fr_at hk
  rw [show N.1 + (p - N.1) = p by omega] at e
  rw [List.set_set, e, List.set_getElem_self]
theorem tie_perm {N : Net} (h : Ok N) {p o : Nat} (hop : o < p) (ho : o ∉ fr N p) : (sd p (o :: fr N p)).Perm (fr N p ++ [o]) :=
  (List.perm_ext_iff_of_nodup (asc_nodup (sd_asc _ _)) (by
    rw [List.nodup_append]
    exact ⟨asc_nodup (h.asc p), by simp, fun a ha b hb e => ho (by rw [List.mem_singleton.mp hb] at e; exact e ▸ ha)⟩)).mpr fun x => by
    rw [mem_sd, List.mem_cons, List.mem_append, List.mem_singleton]
    constructor
    · rintro ⟨_, e | e⟩
      · exact .inr e
      · exact .inl e
    · rintro (e | e)
      · exact ⟨h.less p x e, .inr e⟩
      · exact ⟨by omega, .inl e⟩
/-! ### people without need -/
def others (N : Net) (x : Nat) : List Nat := (List.range (size N)).filter (· != x)
def shift (x a : Nat) : Nat := a - (decide (x < a)).toNat
theorem kept_others {N : Net} {x : Nat} (hx : N.1 ≤ x) : Kept N (others N x) :=
  ⟨(asc_range _).filter _, fun i hi => List.mem_filter.mpr ⟨List.mem_range.mpr (by unfold size; omega), bne_iff_ne.mpr (by omega)⟩, fun y hy => List.mem_range.mp (List.mem_filter.mp hy).1⟩
theorem size_others {N : Net} {x : Nat} (hx : N.1 ≤ x) (h2 : x < size N) : size (left N (others N x)) = size N - 1 := by
  rw [size_left (kept_others hx)]
  unfold others
  rw [← List.Nodup.erase_eq_filter List.nodup_range, List.length_erase_of_mem (List.mem_range.mpr h2), List.length_range]
theorem shift_lt {N : Net} {x a : Nat} (hx : N.1 ≤ x) (h2 : x < size N) (ha : a < size N) (hne : a ≠ x) : shift x a < size (left N (others N x)) := by
  rw [size_others hx h2]
  unfold shift
  by_cases c : x < a
  · rw [decide_eq_true c]
    show a - 1 < _
    omega
  · rw [decide_eq_false c]
    show a - 0 < _
    omega
def goneB (N : Net) (as : List Nat) (p : Nat) : Bool := !decide (p ∈ as) && tabs (left N (others N p)) (as.map (shift p)) == tabs N as
def gates (N : Net) : List Nat := (List.range N.2.length).map (N.1 + ·)
def gone (N : Net) (as : List Nat) : List Nat := (gates N).filter (goneB N as)
theorem mem_gates {N : Net} {p : Nat} : p ∈ gates N ↔ N.1 ≤ p ∧ p < size N := by
  unfold gates size
  rw [List.mem_map]
  constructor
  · rintro ⟨k, hk, rfl⟩
    have := List.mem_range.mp hk
    omega
  · rintro ⟨h1, h2⟩
    exact ⟨p - N.1, List.mem_range.mpr (by omega), by omega⟩
theorem needless_gates (N : Net) (as : List Nat) : needless N as = (gates N).flatMap (nlAt N as) := by
  unfold needless gates
  rw [List.flatMap_map]
/-! ### thin, as asked -/
theorem thin_test {N : Net} (h : Ok N) (as : List Nat) : (gates N).all (fun p => decide (p ∈ up N as)) = decide ((keep N as).length = size N) := by
  rw [Bool.eq_iff_iff, List.all_eq_true, decide_eq_true_iff]
  have hl : (keep N as).length = size N ↔ ∀ p, p < size N → p < N.1 ∨ Reach N as p := by
    unfold keep
    have e := List.length_filter_eq_length_iff (p := fun p => dec (p < N.1 ∨ Reach N as p)) (l := List.range (size N))
    rw [List.length_range] at e
    rw [e]
    exact ⟨fun q p hp => dec_iff.mp (q p (List.mem_range.mpr hp)), fun q p hp => dec_iff.mpr (q p (List.mem_range.mp hp))⟩
  rw [hl]
  constructor
  · intro q p hp
    by_cases c : p < N.1
    · exact .inl c
    · exact .inr (mem_up.mp (of_decide_eq_true (q p (mem_gates.mpr ⟨by omega, hp⟩)))).2
  · intro q p hp
    obtain ⟨h1, h2⟩ := mem_gates.mp hp
    refine decide_eq_true (mem_up.mpr ⟨h2, ?_⟩)
    rcases q p h2 with z | z
    · omega
    · exact z
/-! ### what thinned makes -/
theorem ans_size {N M : Net} {as : List Nat} (h : Ans N as) (e : size M = size N) : Ans M as := ⟨h.ne, h.asc, fun a ha => by rw [e]; exact h.lt a ha⟩
noncomputable def thinNet (N : Net) (as : List Nat) : Net := left (thin N as) (keep (thin N as) as)
noncomputable def thinAns (N : Net) (as : List Nat) : List Nat := as.map ((keep (thin N as) as).idxOf ·)
structure ThinFacts (N : Net) (as : List Nat) (T : Net) (bs : List Nat) : Prop where
  ok : Ok T
  ans : Ans T bs
  ins : T.1 = N.1
  same : tabs T bs = tabs N as
  none : needless T bs = []
  all : (gates T).all (fun p => decide (p ∈ up T bs)) = true
theorem made_facts {N M : Net} {as : List Nat} (L : Like N M as) (A : Ans N as) (hn : needless M as = []) : ThinFacts N as (left M (keep M as)) (as.map ((keep M as).idxOf ·)) := by
  have A' : Ans M as := ans_size A L.size
  have C := keep_closed L.ok A'.lt
  have hs := ans_keep (N := M) A'.lt
  refine ⟨L.ok.left C.kept, A'.left C.kept hs, L.ins, (tabs_left L.ok C hs).trans L.tabs, needless_left L.ok C hs hn, List.all_eq_true.mpr fun p hp => decide_eq_true (mem_up.mpr ?_)⟩
  obtain ⟨h1, h2⟩ := mem_gates.mp hp
  refine ⟨h2, keep_left L.ok A'.lt h1 ?_⟩
  rw [← size_left C.kept]
  exact h2
theorem thin_facts {N : Net} (h : Ok N) {as : List Nat} (A : Ans N as) : ThinFacts N as (thinNet N as) (thinAns N as) := by
  unfold thinNet thinAns thin
  exact made_facts (like_thin h as 40) A (thin_done h as)
/-! ### joined -/
def firsts (N : Net) : List Nat := (paper N).map ((paper N).idxOf ·)
def jkeep (N : Net) : List Nat := sd (size N) (List.range N.1 ++ firsts N)
def jnear (N : Net) (l : List Nat) : List Nat := sd (size N) (l.map fun o => (jkeep N).idxOf ((firsts N).getD o 0))
def joinNet (N : Net) : Net := (N.1, ((jkeep N).drop N.1).map fun w => jnear N (fr N w))
theorem firsts_len (N : Net) : (firsts N).length = size N := by
  unfold firsts
  rw [List.length_map, paper_len]
theorem firsts_lt {N : Net} {x : Nat} (hx : x ∈ firsts N) : x < size N := by
  obtain ⟨l, hl, rfl⟩ := List.mem_map.mp hx
  rw [← paper_len N]
  exact List.idxOf_lt_length_iff.mpr hl
theorem firsts_get {N : Net} {o : Nat} (h : o < size N) : (firsts N).getD o 0 ∈ firsts N := by
  rw [List.getD_eq_getElem?_getD, List.getElem?_eq_getElem (by rw [firsts_len]; exact h)]
  exact List.getElem_mem _
theorem firsts_keep {N : Net} {x : Nat} (hx : x ∈ firsts N) : x ∈ jkeep N := mem_sd.mpr ⟨firsts_lt hx, List.mem_append.mpr (.inr hx)⟩
theorem jkeep_len (N : Net) : (jkeep N).length ≤ size N := asc_len (sd_asc _ _) fun x hx => (mem_sd.mp hx).1
theorem jidx_lt {N : Net} {o : Nat} (h : o < size N) : (jkeep N).idxOf ((firsts N).getD o 0) < size N := Nat.lt_of_lt_of_le (idx_lt (firsts_keep (firsts_get h))) (jkeep_len N)
end Nt
end

section
set_option maxHeartbeats 4000000
/-! A calculus of data: an expression, in an environment of data, gives data. -/
namespace Dc
open PySem PySem.Spec PyProof.Rows L2
theorem rd_mono {H H' : Hp} {a : Addr} {u : HO} (e : Same H H') : Rd H a u → Rd H' a u
  | .inl h => .inl (e _ _ h)
  | .inr ⟨o, h⟩ => .inr ⟨o, e _ _ h⟩
theorem sqt {K : PySem.W.Frag} {B H : Hp} {a : Addr} {xs : List V} (e : Same B H) (h : Rd B a (.tup xs)) : SqT K H a xs := .inl (rd_mono e h)
/-! ### data that stand in a heap -/
mutual
inductive Dd (B : Hp) : V → PyData → Prop
  | non : Dd B .non .none
  | bl (b : Bool) : Dd B (.bl b) (.bool b)
  | int (i : Int) : Dd B (.int i) (.int i)
  | str (x : Str) : Dd B (.str x) (.str x)
  | lst {a : Addr} {xs : List V} {ds : List PyData} : B a = some (.lst xs) → DdAll B xs ds → Dd B (.ref a) (.list ds)
  | tup {a : Addr} {xs : List V} {ds : List PyData} : Rd B a (.tup xs) → DdAll B xs ds → Dd B (.ref a) (.tuple ds)
inductive DdAll (B : Hp) : List V → List PyData → Prop
  | nil : DdAll B [] []
  | cons {v : V} {vs : List V} {d : PyData} {ds : List PyData} : Dd B v d → DdAll B vs ds → DdAll B (v :: vs) (d :: ds)
end
section
variable {B B' H : Hp}
mutual
theorem Dd.mono (e : Same B B') : ∀ {v : V} {d : PyData}, Dd B v d → Dd B' v d
  | _, _, .non => .non
  | _, _, .bl b => .bl b
  | _, _, .int i => .int i
  | _, _, .str x => .str x
  | _, _, .lst h k => .lst (e _ _ h) (DdAll.mono e k)
  | _, _, .tup h k => .tup (rd_mono e h) (DdAll.mono e k)
theorem DdAll.mono (e : Same B B') : ∀ {vs : List V} {ds : List PyData}, DdAll B vs ds → DdAll B' vs ds
  | _, _, .nil => .nil
  | _, _, .cons h k => .cons (Dd.mono e h) (DdAll.mono e k)
end
mutual
theorem Dd.dp (K : PySem.W.Frag) : ∀ {v : V} {d : PyData}, Dd B v d → Dp K B v d
  | _, _, .non => .non
  | _, _, .bl b => .bl b
  | _, _, .int i => .int i
  | _, _, .str x => .str x
  | _, _, .lst h k => .lst (SqL.of h) (DdAll.dp K k)
  | _, _, .tup h k => .tup (.inl h) (DdAll.dp K k)
theorem DdAll.dp (K : PySem.W.Frag) : ∀ {vs : List V} {ds : List PyData}, DdAll B vs ds → DpAll K B vs ds
  | _, _, .nil => .nil
  | _, _, .cons h k => .cons (Dd.dp K h) (DdAll.dp K k)
end
theorem Dd.int_inv {v : V} {i : Int} (h : Dd B v (.int i)) : v = .int i := by cases h; rfl
theorem Dd.bl_inv {v : V} {b : Bool} (h : Dd B v (.bool b)) : v = .bl b := by cases h; rfl
theorem Dd.non_inv {v : V} (h : Dd B v .none) : v = .non := by cases h; rfl
theorem Dd.lst_inv {v : V} {ds : List PyData} (h : Dd B v (.list ds)) : ∃ a xs, v = .ref a ∧ B a = some (.lst xs) ∧ DdAll B xs ds := by
  cases h with
  | lst h k => exact ⟨_, _, rfl, h, k⟩
theorem Dd.tup_inv {v : V} {ds : List PyData} (h : Dd B v (.tuple ds)) : ∃ a xs, v = .ref a ∧ Rd B a (.tup xs) ∧ DdAll B xs ds := by
  cases h with
  | tup h k => exact ⟨_, _, rfl, h, k⟩
theorem DdAll.length : ∀ {vs : List V} {ds : List PyData}, DdAll B vs ds → vs.length = ds.length
  | _, _, .nil => rfl
  | _, _, .cons _ k => congrArg (· + 1) (DdAll.length k)
theorem DdAll.get : ∀ {vs : List V} {ds : List PyData} {i : Nat} {d : PyData}, DdAll B vs ds → ds[i]? = some d → ∃ v, vs[i]? = some v ∧ Dd B v d
  | _, _, i, d, .nil, h => by simp at h
  | _, _, 0, d, .cons h k, e => ⟨_, rfl, by
      have e' := Option.some.inj e
      rw [← e']
      exact h⟩
  | _, _, i + 1, d, .cons h k, e => DdAll.get k (i := i) e
theorem DdAll.getV : ∀ {vs : List V} {ds : List PyData} {i : Nat} {v : V}, DdAll B vs ds → vs[i]? = some v → ∃ d, ds[i]? = some d ∧ Dd B v d
  | _, _, i, v, .nil, h => by simp at h
  | _, _, 0, v, .cons h k, e => ⟨_, rfl, by
      have e' := Option.some.inj e
      rw [← e']
      exact h⟩
  | _, _, i + 1, v, .cons h k, e => DdAll.getV k (i := i) e
theorem DdAll.append : ∀ {vs ws : List V} {ds es : List PyData}, DdAll B vs ds → DdAll B ws es → DdAll B (vs ++ ws) (ds ++ es)
  | _, _, _, _, .nil, h => h
  | _, _, _, _, .cons h k, h' => .cons h (DdAll.append k h')
theorem DdAll.take : ∀ {vs : List V} {ds : List PyData} (n : Nat), DdAll B vs ds → DdAll B (vs.take n) (ds.take n)
  | _, _, 0, _ => .nil
  | _, _, n + 1, .nil => .nil
  | _, _, n + 1, .cons h k => .cons h (DdAll.take n k)
theorem DdAll.drop : ∀ {vs : List V} {ds : List PyData} (n : Nat), DdAll B vs ds → DdAll B (vs.drop n) (ds.drop n)
  | _, _, 0, h => h
  | _, _, n + 1, .nil => .nil
  | _, _, n + 1, .cons h k => DdAll.drop n k
theorem DdAll.rep {vs : List V} {ds : List PyData} (h : DdAll B vs ds) : ∀ n : Nat, DdAll B (List.replicate n vs).flatten (List.replicate n ds).flatten
  | 0 => .nil
  | n + 1 => by
    rw [List.replicate_succ, List.replicate_succ, List.flatten_cons, List.flatten_cons]
    exact h.append (h.rep n)
theorem DdAll.ints : ∀ {vs : List V} {ns : List Int}, DdAll B vs (ns.map .int) → vs = ns.map V.int
  | vs, [], h => by
    cases h
    rfl
  | vs, n :: ns, h => by
    cases h with
    | cons h k =>
      rw [h.int_inv, DdAll.ints k] <;> rfl
theorem DdAll.bls : ∀ {vs : List V} {ns : List Bool}, DdAll B vs (ns.map .bool) → vs = ns.map V.bl
  | vs, [], h => by
    cases h
    rfl
  | vs, n :: ns, h => by
    cases h with
    | cons h k =>
      rw [h.bl_inv, DdAll.bls k] <;> rfl
theorem DdAll.ofInts : ∀ ns : List Int, DdAll B (ns.map V.int) (ns.map .int)
  | [] => .nil
  | n :: ns => .cons (.int n) (DdAll.ofInts ns)
end
/-! ### the data heap below the whole heap -/
structure Grow (B H B' H' : Hp) : Prop where
  ext : Same H H'
  bb : Same B B'
  sub : Same B' H'
  sep : ∀ a, H a ≠ none → B a = none → B' a = none
theorem Grow.refl {B H : Hp} (e : Same B H) : Grow B H B H := ⟨.refl H, .refl B, e, fun _ _ h => h⟩
theorem Same.ne {H H' : Hp} (e : Same H H') {a : Addr} (h : H a ≠ none) : H' a ≠ none := by
  cases q : H a with
  | none => exact absurd q h
  | some o =>
    rw [e a o q]
    exact fun z => nomatch z
theorem Grow.trans {B H B1 H1 B2 H2 : Hp} (x : Grow B H B1 H1) (y : Grow B1 H1 B2 H2) : Grow B H B2 H2 :=
  ⟨x.ext.trans y.ext, x.bb.trans y.bb, y.sub, fun a h1 h2 => y.sep a (Same.ne x.ext h1) (x.sep a h1 h2)⟩
theorem same_upd2 {B H : Hp} (e : Same B H) (p : Addr) (o : HO) : Same (upd B p o) (upd H p o) := fun b u h => by
  by_cases c : b = p
  · subst c
    rw [upd_same] at h ⊢
    exact h
  · rw [upd_ne c] at h ⊢
    exact e b u h
theorem same_new {H : Hp} {p : Addr} (h : H p = none) (o : HO) : Same H (upd H p o) := fun b u q => by
  rw [upd_ne (ne_of_none q h)]
  exact q
/-- a new object of data -/
theorem Grow.new {B H : Hp} {p : Addr} {o : HO} (e : Same B H) (h : H p = none) : Grow B H (upd B p o) (upd H p o) := by
  have hb : B p = none := e.free h
  refine ⟨same_new h o, same_new hb o, same_upd2 e p o, fun a h1 h2 => ?_⟩
  have ne : a ≠ p := fun z => by
    rw [z] at h1
    exact h1 h
  rw [upd_ne ne]
  exact h2
/-- a new object that is no data (a list that grows) -/
theorem Grow.aside {B H : Hp} {p : Addr} {o : HO} (e : Same B H) (h : H p = none) : Grow B H B (upd H p o) :=
  ⟨same_new h o, .refl B, e.trans (same_new h o), fun _ _ h => h⟩
/-! ### environments -/
inductive Sl where
  | no
  | dat (d : PyData)
  /-- a tuple whose object is known -/
  | fdat (d : PyData)
  /-- a list that grows -/
  | lst (ds : List PyData)
  /-- a dict that grows, its keys -/
  | dic (ks : List Int)
  /-- a value that is no data -/
  | raw (v : V)
abbrev Env := List Sl
def Frz (B : Hp) (v : V) : Prop := ∃ a o xs, v = .ref a ∧ B a = some (.frz o (.tup xs)) ∧ o.dict = none ∧ o.cls = .type "tuple"
theorem Frz.mono {B B' : Hp} (e : Same B B') {v : V} : Frz B v → Frz B' v
  | ⟨a, o, xs, h1, h2, h3⟩ => ⟨a, o, xs, h1, e _ _ h2, h3⟩
def keysV (ks : List Int) : List (Key × V) := ks.map fun k => (Sum.inl k, V.bl true)
def SlotOk (H0 B H : Hp) (o : Option (Option V)) : Sl → Prop
  | .no => True
  | .dat d => ∃ v, o = some (some v) ∧ Dd B v d
  | .fdat d => ∃ v, o = some (some v) ∧ Dd B v d ∧ Frz B v
  | .lst ds => ∃ l xs, o = some (some (.ref l)) ∧ H l = some (.lst xs) ∧ H0 l = none ∧ B l = none ∧ DdAll B xs ds
  | .dic ks => ∃ l, o = some (some (.ref l)) ∧ H l = some (.dK (keysV ks)) ∧ H0 l = none ∧ B l = none
  | .raw v => o = some (some v)
def Sl.own : Sl → Bool
  | .lst _ => true
  | .dic _ => true
  | _ => false
structure Sok (H0 B H : Hp) (σ : L2.St) (ρ : Env) : Prop where
  len : σ.length = ρ.length
  slot : ∀ (i : Nat) (s : Sl), ρ[i]? = some s → SlotOk H0 B H σ[i]? s
  apart : ∀ (i j : Nat) (s t : Sl) (l : Addr), i ≠ j → ρ[i]? = some s → ρ[j]? = some t → s.own = true → t.own = true → σ[i]? = some (some (.ref l)) → σ[j]? ≠ some (some (.ref l))
section
variable {H0 B H B' H' : Hp} {σ : L2.St} {ρ : Env}
theorem SlotOk.grow (g : Grow B H B' H') {o : Option (Option V)} : ∀ {s : Sl}, SlotOk H0 B H o s → SlotOk H0 B' H' o s
  | .no, _ => trivial
  | .dat d, ⟨v, e, h⟩ => ⟨v, e, h.mono g.bb⟩
  | .fdat d, ⟨v, e, h, k⟩ => ⟨v, e, h.mono g.bb, k.mono g.bb⟩
  | .lst ds, ⟨l, xs, e, h1, h2, h3, h4⟩ => ⟨l, xs, e, g.ext _ _ h1, h2, g.sep l (by rw [h1]; exact fun z => nomatch z) h3, h4.mono g.bb⟩
  | .dic ks, ⟨l, e, h1, h2, h3⟩ => ⟨l, e, g.ext _ _ h1, h2, g.sep l (by rw [h1]; exact fun z => nomatch z) h3⟩
  | .raw v, h => h
theorem Sok.grow (x : Sok H0 B H σ ρ) (g : Grow B H B' H') : Sok H0 B' H' σ ρ := ⟨x.len, fun i s h => (x.slot i s h).grow g, x.apart⟩
theorem Sok.dat (x : Sok H0 B H σ ρ) {i : Nat} {d : PyData} (h : ρ[i]? = some (.dat d)) : ∃ v, σ[i]? = some (some v) ∧ Dd B v d := x.slot i _ h
theorem Sok.fdat (x : Sok H0 B H σ ρ) {i : Nat} {d : PyData} (h : ρ[i]? = some (.fdat d)) : ∃ v, σ[i]? = some (some v) ∧ Dd B v d ∧ Frz B v := x.slot i _ h
theorem Sok.lst (x : Sok H0 B H σ ρ) {i : Nat} {ds : List PyData} (h : ρ[i]? = some (.lst ds)) : ∃ l xs, σ[i]? = some (some (.ref l)) ∧ H l = some (.lst xs) ∧ H0 l = none ∧ B l = none ∧ DdAll B xs ds := x.slot i _ h
theorem Sok.dic (x : Sok H0 B H σ ρ) {i : Nat} {ks : List Int} (h : ρ[i]? = some (.dic ks)) : ∃ l, σ[i]? = some (some (.ref l)) ∧ H l = some (.dK (keysV ks)) ∧ H0 l = none ∧ B l = none := x.slot i _ h
end
/-! ### readings of data -/
def tD (ρ : Env) (d : PyData) : TE := fun σ H Q => ∃ H0 B, Same B H ∧ Sok H0 B H σ ρ ∧ ∀ v B' H', Grow B H B' H' → Dd B' v d → Q v H'
def tDs (ρ : Env) (ds : List PyData) : TA := fun σ H Q => ∃ H0 B, Same B H ∧ Sok H0 B H σ ρ ∧ ∀ vs B' H', Grow B H B' H' → DdAll B' vs ds → Q vs H'
def tDT (ρ : Env) (b : Bool) : TT := fun σ H Q => ∃ H0 B, Same B H ∧ Sok H0 B H σ ρ ∧ ∀ B' H', Grow B H B' H' → Q b H'
def tDO (ρ : Env) (o : Option Int) : TO := fun σ H Q => ∃ H0 B, Same B H ∧ Sok H0 B H σ ρ ∧ ∀ B' H', Grow B H B' H' → Q o H'
abbrev PD (X : Cx) (e : Expr) (ρ : Env) (d : PyData) : Prop := PE X e (tD ρ d)
abbrev PDs (X : Cx) (es : List Expr) (ρ : Env) (ds : List PyData) : Prop := PA X es (tDs ρ ds)
abbrev PTD (X : Cx) (e : Expr) (ρ : Env) (b : Bool) : Prop := PT X e (tDT ρ b)
abbrev PWD (X : Cx) (e : Expr) (ρ : Env) (b : Bool) : Prop := PW X e (tDT ρ b)
abbrev POD (X : Cx) (e : Option Expr) (ρ : Env) (o : Option Int) : Prop := PO X e (tDO ρ o)
theorem pe_mono {X : Cx} {e : Expr} {t t' : TE} (h : PE X e t) (k : ∀ σ H Q, t' σ H Q → t σ H Q) : PE X e t' := ⟨fun pins s σ H Q I q => h.run pins s σ H Q I (k σ H Q q)⟩
theorem pt_mono {X : Cx} {e : Expr} {t t' : TT} (h : PT X e t) (k : ∀ σ H Q, t' σ H Q → t σ H Q) : PT X e t' := ⟨fun pins s σ H Q I q => h.run pins s σ H Q I (k σ H Q q)⟩
theorem pw_mono {X : Cx} {e : Expr} {t t' : TT} (h : PW X e t) (k : ∀ σ H Q, t' σ H Q → t σ H Q) : PW X e t' := ⟨fun whole pins s σ H Q I q => h.run whole pins s σ H Q I (k σ H Q q)⟩
theorem pa_mono {X : Cx} {e : List Expr} {t t' : TA} (h : PA X e t) (k : ∀ σ H Q, t' σ H Q → t σ H Q) : PA X e t' := ⟨fun pos pins s σ H Q I q => h.run pos pins s σ H Q I (k σ H Q q)⟩
theorem po_mono {X : Cx} {e : Option Expr} {t t' : TO} (h : PO X e t) (k : ∀ σ H Q, t' σ H Q → t σ H Q) : PO X e t' := ⟨fun pins s σ H Q I q => h.run pins s σ H Q I (k σ H Q q)⟩
theorem pi_mono {X : Cx} {tg e : Expr} {t t' : TI} (h : PI X tg e t) (k : ∀ σ H R, t' σ H R → t σ H R) : PI X tg e t' := ⟨fun pins s σ H R I q => h.run pins s σ H R I (k σ H R q)⟩
theorem ps_mono {X : Cx} {e : Stmt} {t t' : TS} (h : PS X e t) (k : ∀ D σ H, t' D σ H → t D σ H) : PS X e t' := ⟨fun pins s σ H D I q => h.run pins s σ H D I (k D σ H q)⟩
theorem pss_mono {X : Cx} {e : List Stmt} {t t' : TS} (h : PSs X e t) (k : ∀ D σ H, t' D σ H → t D σ H) : PSs X e t' := ⟨fun pins s σ H D I q => h.run pins s σ H D I (k D σ H q)⟩
/-- a family of readings -/
theorem pe_ex {X : Cx} {e : Expr} {ι : Sort _} {t : ι → TE} (h : ∀ i, PE X e (t i)) : PE X e (fun σ H Q => ∃ i, t i σ H Q) := ⟨fun pins s σ H Q I ⟨i, q⟩ => (h i).run pins s σ H Q I q⟩
theorem pt_ex {X : Cx} {e : Expr} {ι : Sort _} {t : ι → TT} (h : ∀ i, PT X e (t i)) : PT X e (fun σ H Q => ∃ i, t i σ H Q) := ⟨fun pins s σ H Q I ⟨i, q⟩ => (h i).run pins s σ H Q I q⟩
theorem pts_ex {X : Cx} {e : List Expr} {ι : Sort _} {t : ι → TT} (h : ∀ i, PTs X e (t i)) : PTs X e (fun σ H Q => ∃ i, t i σ H Q) := ⟨fun pins s σ H Q I ⟨i, q⟩ => (h i).run pins s σ H Q I q⟩
theorem pi_ex {X : Cx} {tg e : Expr} {ι : Sort _} {t : ι → TI} (h : ∀ i, PI X tg e (t i)) : PI X tg e (fun σ H Q => ∃ i, t i σ H Q) := ⟨fun pins s σ H Q I ⟨i, q⟩ => (h i).run pins s σ H Q I q⟩
theorem pss_ex {X : Cx} {e : List Stmt} {ι : Sort _} {t : ι → TS} (h : ∀ i, PSs X e (t i)) : PSs X e (fun σ H Q => ∃ i, t i σ H Q) := ⟨fun pins s σ H Q I ⟨i, q⟩ => (h i).run pins s σ H Q I q⟩
section
variable {X : Cx} {ρ : Env} {e a b c : Expr} {es : List Expr} {d d1 d2 : PyData} {ds es' : List PyData} {pos p : Pos}
theorem PD.is {d'} (h : PD X e ρ d) (q : d = d') : PD X e ρ d' := q ▸ h
theorem PTD.is {b b' : Bool} (h : PTD X e ρ b) (q : b = b') : PTD X e ρ b' := q ▸ h
/-! ### names, constants -/
theorem pd_v (i : Nat) {x : Str} (hd : ρ[i]? = some (.dat d) := by rfl) (hN : X.N[i]? = some x := by rfl) (hv : Vis X.env.scope x := by first | exact Or.inl rfl | exact Or.inr (Or.inl rfl) | exact Or.inr (Or.inr rfl))
    (h1 : (x == ("__debug__" : Str)) = false := by decide) (h2 : (x == ("__classdict__" : Str)) = false := by decide) : PD X (.Name x pos) ρ d :=
  pe_mono (pe_var hN hv h1 h2) fun σ H Q ⟨H0, B, e, s, q⟩ => by
    obtain ⟨v, h1, h2⟩ := s.dat hd
    exact ⟨v, h1, q v B H (.refl e) h2⟩
theorem pd_vf (i : Nat) {x : Str} (hd : ρ[i]? = some (.fdat d) := by rfl) (hN : X.N[i]? = some x := by rfl) (hv : Vis X.env.scope x := by first | exact Or.inl rfl | exact Or.inr (Or.inl rfl) | exact Or.inr (Or.inr rfl))
    (h1 : (x == ("__debug__" : Str)) = false := by decide) (h2 : (x == ("__classdict__" : Str)) = false := by decide) : PD X (.Name x pos) ρ d :=
  pe_mono (pe_var hN hv h1 h2) fun σ H Q ⟨H0, B, e, s, q⟩ => by
    obtain ⟨v, h1, h2, _⟩ := s.fdat hd
    exact ⟨v, h1, q v B H (.refl e) h2⟩
theorem pd_int {i j} : PD X (.Constant (.int i) j pos) ρ (.int i) := pe_mono pe_int fun σ H Q ⟨H0, B, e, s, q⟩ => q _ B H (.refl e) (.int i)
theorem pd_bl {i j} : PD X (.Constant (.bool i) j pos) ρ (.bool i) := pe_mono pe_bl fun σ H Q ⟨H0, B, e, s, q⟩ => q _ B H (.refl e) (.bl i)
theorem pd_non {j} : PD X (.Constant .none j pos) ρ .none := pe_mono pe_non fun σ H Q ⟨H0, B, e, s, q⟩ => q _ B H (.refl e) .non
theorem pd_str {x j} : PD X (.Constant (.str x) j pos) ρ (.str x) := pe_mono pe_str fun σ H Q ⟨H0, B, e, s, q⟩ => q _ B H (.refl e) (.str x)
theorem pd_globI {x : Str} {i : Int} {t : Tok} (hm : X.mg x = some (.int i t)) (hg : Gl X x := by rfl) (hd : (x == ("__debug__" : Str)) = false := by decide) : PD X (.Name x pos) ρ (.int i) :=
  pe_mono (pe_glob (v := .int i) hg hm ⟨_, rfl⟩ hd) fun σ H Q ⟨H0, B, e, s, q⟩ => q _ B H (.refl e) (.int i)
/-! ### lists of expressions -/
theorem pds_nil : PDs X [] ρ [] := pa_mono pa_nil fun σ H Q ⟨H0, B, e, s, q⟩ => q [] B H (.refl e) .nil
theorem pds_cons (ha : PD X e ρ d) (hr : PDs X es ρ ds) (hs : starEach (e :: es) X.env = (false, eval e X.env) :: starEach es X.env := by rfl) : PDs X (e :: es) ρ (d :: ds) :=
  pa_mono (pa_cons ha hr hs) fun σ H Q ⟨H0, B, e, s, q⟩ => ⟨H0, B, e, s, fun v B1 H1 g1 h1 => ⟨H0, B1, g1.sub, s.grow g1, fun vs B2 H2 g2 h2 => q _ B2 H2 (g1.trans g2) (.cons (h1.mono g2.bb) h2)⟩⟩
theorem pds_one (ha : PD X e ρ d) (hs : starEach (e :: []) X.env = (false, eval e X.env) :: starEach [] X.env := by rfl) : PDs X [e] ρ [d] := pds_cons ha pds_nil hs
/-- *e -/
theorem pds_star (ha : PD X e ρ d) (hd : d = .tuple es' ∨ d = .list es') (hr : PDs X es ρ ds) (hs : starEach (.Starred e p :: es) X.env = (true, eval e X.env) :: starEach es X.env := by rfl) : PDs X (.Starred e p :: es) ρ (es' ++ ds) :=
  pa_mono (StX.pa_star ha hr hs) fun σ H Q ⟨H0, B, e, s, q⟩ => ⟨H0, B, e, s, fun v B1 H1 g1 h1 => by
    rcases hd with z | z
    · subst z
      obtain ⟨a, xs, rfl, ha, hx⟩ := h1.tup_inv
      exact ⟨a, xs, rfl, .inl (sqt g1.sub ha), H0, B1, g1.sub, s.grow g1, fun vs B2 H2 g2 h2 => q _ B2 H2 (g1.trans g2) ((hx.mono g2.bb).append h2)⟩
    · subst z
      obtain ⟨a, xs, rfl, ha, hx⟩ := h1.lst_inv
      exact ⟨a, xs, rfl, .inr (SqL.of (g1.sub _ _ ha)), H0, B1, g1.sub, s.grow g1, fun vs B2 H2 g2 h2 => q _ B2 H2 (g1.trans g2) ((hx.mono g2.bb).append h2)⟩⟩
/-! ### displays -/
theorem sz {n : Nat} (h : n ≤ 100000) : n ≤ sizeLine := Nat.le_trans h (by decide)
theorem szl {n : Nat} (h : n < 100000) : n < sizeLine := Nat.lt_of_lt_of_le h (by decide)
theorem pd_tup {k} (h : PDs X es ρ ds) (hl : ds.length ≤ 100000 := by exact Nat.le_of_ble_eq_true rfl) : PD X (.Tuple es k pos) ρ (.tuple ds) :=
  pe_mono (pe_tup h) fun σ H Q ⟨H0, B, e, s, q⟩ => ⟨H0, B, e, s, fun vs B1 H1 g1 h1 => ⟨by rw [h1.length]; exact sz hl, fun p hp => q _ _ _ (g1.trans (.new g1.sub hp)) (.tup (.inl upd_same) (h1.mono (same_new (g1.sub.free hp) _)))⟩⟩
theorem pd_lst (h : PDs X es ρ ds) (hl : ds.length ≤ 100000 := by exact Nat.le_of_ble_eq_true rfl) : PD X (.List es pos) ρ (.list ds) :=
  pe_mono (pe_lst h) fun σ H Q ⟨H0, B, e, s, q⟩ => ⟨H0, B, e, s, fun vs B1 H1 g1 h1 => ⟨by rw [h1.length]; exact sz hl, fun p hp => q _ _ _ (g1.trans (.new g1.sub hp)) (.lst upd_same (h1.mono (same_new (g1.sub.free hp) _)))⟩⟩
/-! ### operators -/
def RD2 (r : R2) (d1 d2 d : PyData) : Prop := ∀ x y B H (Q : VK), Same B H → Dd B x d1 → Dd B y d2 → (∀ v B' H', Grow B H B' H' → Dd B' v d → Q v H') → r x y H Q
theorem pd_bin {r : R2} (hr : RD2 r d1 d2 d) : ∀ σ H Q, tD ρ d σ H Q → tOp r (tD ρ d1) (tD ρ d2) σ H Q := fun σ H Q ⟨H0, B, e, s, q⟩ =>
  ⟨H0, B, e, s, fun x B1 H1 g1 h1 => ⟨H0, B1, g1.sub, s.grow g1, fun y B2 H2 g2 h2 => hr x y B2 H2 Q g2.sub (h1.mono g2.bb) h2 fun v B3 H3 g3 h3 => q v B3 H3 ((g1.trans g2).trans g3) h3⟩⟩
theorem pd_op {op : Operator} {r : R2} (ho : OpR X (binaryOp op) r) (hr : RD2 r d1 d2 d) (ha : PD X a ρ d1) (hb : PD X b ρ d2) : PD X (.BinOp a op b pos) ρ d := pe_mono (pe_op ho ha hb) (pd_bin hr)
theorem pd_cmp {op : CmpOp} {r : R2} (ho : OpR X (compareOp op) r) (hr : RD2 r d1 d2 d) (ha : PD X a ρ d1) (hb : PD X b ρ d2) (hm : behindInMarks op b = false := by first | exact nomark _ | rfl) : PD X (.Compare a [op] [b] pos) ρ d := pe_mono (pe_cmpR ho ha hb hm) (pd_bin hr)
theorem pd_ixr {r : R2} (ho : IxR X r) (hr : RD2 r d1 d2 d) (ha : PD X a ρ d1) (hb : PD X b ρ d2) (hs : PlainIx b := by exact fun _ _ => rfl) : PD X (.Subscript a b pos) ρ d := pe_mono (pe_ix ho ha hb hs) (pd_bin hr)
theorem rd_I0 {g : Int → Int → Int} {i j : Int} : RD2 (rI0 fun i j => .int (g i j)) (.int i) (.int j) (.int (g i j)) := fun x y B H Q e h1 h2 q => ⟨i, j, h1.int_inv, h2.int_inv, q _ B H (.refl e) (.int _)⟩
theorem rd_C0 {g : Int → Int → Bool} {i j : Int} : RD2 (rI0 fun i j => .bl (g i j)) (.int i) (.int j) (.bool (g i j)) := fun x y B H Q e h1 h2 q => ⟨i, j, h1.int_inv, h2.int_inv, q _ B H (.refl e) (.bl _)⟩
theorem rd_ixT {K : PySem.W.Frag} {i : Int} (h : atI ds i = some d) : RD2 (rIxT K) (.tuple ds) (.int i) d := fun x y B H Q e h1 h2 q => by
  obtain ⟨a, xs, rfl, ha, hx⟩ := h1.tup_inv
  obtain ⟨j, hj, h⟩ := Option.bind_eq_some_iff.mp h
  obtain ⟨v, hv, hd⟩ := hx.get h
  refine ⟨a, xs, i, v, rfl, h2.int_inv, sqt e ha, ?_, q v B H (.refl e) hd⟩
  unfold atI
  rw [hx.length, hj]
  exact hv
theorem rd_ixL {K : PySem.W.Frag} {i : Int} (h : atI ds i = some d) : RD2 (rIxL K) (.list ds) (.int i) d := fun x y B H Q e h1 h2 q => by
  obtain ⟨a, xs, rfl, ha, hx⟩ := h1.lst_inv
  obtain ⟨j, hj, h⟩ := Option.bind_eq_some_iff.mp h
  obtain ⟨v, hv, hd⟩ := hx.get h
  refine ⟨a, xs, i, v, rfl, h2.int_inv, SqL.of (e _ _ ha), ?_, q v B H (.refl e) hd⟩
  unfold atI
  rw [hx.length, hj]
  exact hv
theorem pd_add {i j : Int} (ha : PD X a ρ (.int i)) (hb : PD X b ρ (.int j)) : PD X (.BinOp a .Add b pos) ρ (.int (i + j)) := pd_op op_add rd_I0 ha hb
theorem pd_sub {i j : Int} (ha : PD X a ρ (.int i)) (hb : PD X b ρ (.int j)) : PD X (.BinOp a .Sub b pos) ρ (.int (i - j)) := pd_op op_sub rd_I0 ha hb
theorem pd_lt {i j : Int} (ha : PD X a ρ (.int i)) (hb : PD X b ρ (.int j)) : PD X (.Compare a [.Lt] [b] pos) ρ (.bool (decide (i < j))) := pd_cmp op_lt rd_C0 ha hb (nomark _)
theorem pd_gt {i j : Int} (ha : PD X a ρ (.int i)) (hb : PD X b ρ (.int j)) : PD X (.Compare a [.Gt] [b] pos) ρ (.bool (decide (j < i))) := pd_cmp op_gt rd_C0 ha hb (nomark _)
theorem pd_ge {i j : Int} (ha : PD X a ρ (.int i)) (hb : PD X b ρ (.int j)) : PD X (.Compare a [.GtE] [b] pos) ρ (.bool (decide (j ≤ i))) := pd_cmp op_ge rd_C0 ha hb (nomark _)
theorem pd_ixT {i : Int} (ha : PD X a ρ (.tuple ds)) (hb : PD X b ρ (.int i)) (h : atI ds i = some d := by rfl) (hs : PlainIx b := by exact fun _ _ => rfl) : PD X (.Subscript a b pos) ρ d := pd_ixr ix_tup (rd_ixT h) ha hb hs
theorem pd_ixL {i : Int} (ha : PD X a ρ (.list ds)) (hb : PD X b ρ (.int i)) (h : atI ds i = some d := by rfl) (hs : PlainIx b := by exact fun _ _ => rfl) : PD X (.Subscript a b pos) ρ d := pd_ixr ix_list (rd_ixL h) ha hb hs
theorem pd_neg {i : Int} (ha : PD X a ρ (.int i)) : PD X (.UnaryOp .USub a pos) ρ (.int (-i)) :=
  pe_mono (pe_un un_neg ha) fun σ H Q ⟨H0, B, e, s, q⟩ => ⟨H0, B, e, s, fun v B1 H1 g1 h1 => ⟨i, h1.int_inv, q _ B1 H1 g1 (.int _)⟩⟩
/-- == of data -/
theorem pd_eq (hu : X.A.units + 64 < cLine) (ha : PD X a ρ d1) (hb : PD X b ρ d2) (h1 : SeqAt.shaped d1 = true) (h2 : SeqAt.shaped d2 = true) : PD X (.Compare a [.Eq] [b] pos) ρ (.bool (PyData.eqv d1 d2)) :=
  pd_cmp (op_eqD hu) (fun x y B H Q e k1 k2 q => ⟨d1, d2, (k1.mono e).dp _, (k2.mono e).dp _, h1, h2, q _ B H (.refl e) (.bl _)⟩) ha hb (nomark _)
theorem pd_ne (hu : X.A.units + 64 < cLine) (ha : PD X a ρ d1) (hb : PD X b ρ d2) (h1 : SeqAt.shaped d1 = true) (h2 : SeqAt.shaped d2 = true) : PD X (.Compare a [.NotEq] [b] pos) ρ (.bool (!PyData.eqv d1 d2)) :=
  pd_cmp (op_neD hu) (fun x y B H Q e k1 k2 q => ⟨d1, d2, (k1.mono e).dp _, (k2.mono e).dp _, h1, h2, q _ B H (.refl e) (.bl _)⟩) ha hb (nomark _)
/-- e is None -/
def isNone : PyData → Bool
  | .none => true
  | _ => false
theorem Dd.none_iff {B : Hp} {v : V} (h : Dd B v d) : decide (v = .non) = isNone d := by
  cases h <;> first | rfl | exact decide_eq_false (fun z => nomatch z)
theorem pd_isN {j pos'} (ha : PD X a ρ d) : PD X (.Compare a [.Is] [.Constant .none j pos'] pos) ρ (.bool (isNone d)) :=
  pd_cmp op_isN (fun x y B H Q e k1 k2 q => ⟨k2.non_inv, by rw [k1.none_iff]; exact q _ B H (.refl e) (.bl _)⟩) ha pd_non (nomark _)
theorem pd_notN {j pos'} (ha : PD X a ρ d) : PD X (.Compare a [.IsNot] [.Constant .none j pos'] pos) ρ (.bool (!isNone d)) :=
  pd_cmp op_notN (fun x y B H Q e k1 k2 q => ⟨k2.non_inv, by rw [k1.none_iff]; exact q _ B H (.refl e) (.bl _)⟩) ha pd_non (nomark _)
/-- n in a list or tuple of ints -/
theorem inV_ints (i : Int) (ns : List Int) : inV (.int i) (ns.map V.int) = decide (i ∈ ns) := by
  unfold inV
  rw [List.any_map]
  have e : (ns.any ((fun y => eqV y (.int i)) ∘ V.int)) = ns.any fun n => n == i := rfl
  rw [e]
  rw [Bool.eq_iff_iff, decide_eq_true_iff, List.any_eq_true]
  constructor
  · rintro ⟨n, hn, e⟩
    rw [← eq_of_beq e]
    exact hn
  · exact fun h => ⟨i, h, beq_self_eq_true i⟩
theorem flat_ints (ns : List Int) : (ns.map V.int).all flatV = true := by
  rw [List.all_map]
  exact List.all_eq_true.mpr fun _ _ => rfl
theorem rd_in {K : PySem.W.Frag} {neg : Bool} {i : Int} {ns : List Int} (hd : d = .tuple (ns.map .int) ∨ d = .list (ns.map .int)) : RD2 (rIn K neg) (.int i) d (.bool (if neg then !decide (i ∈ ns) else decide (i ∈ ns))) := fun x y B H Q e h1 h2 q => by
  have qq : ∀ (p : Addr) (xs : List V), xs = ns.map V.int → Q (.bl (if neg then !inV (V.int i) xs else inV (V.int i) xs)) H := fun p xs z => by
    rw [z, inV_ints]
    exact q _ B H (.refl e) (.bl _)
  rw [h1.int_inv]
  rcases hd with z | z
  · subst z
    obtain ⟨a, xs, rfl, ha, hx⟩ := h2.tup_inv
    have ex := hx.ints
    exact ⟨a, xs, rfl, .inr (sqt e ha), rfl, by rw [ex]; exact flat_ints ns, qq a xs ex⟩
  · subst z
    obtain ⟨a, xs, rfl, ha, hx⟩ := h2.lst_inv
    have ex := hx.ints
    exact ⟨a, xs, rfl, .inl (SqL.of (e _ _ ha)), rfl, by rw [ex]; exact flat_ints ns, qq a xs ex⟩
theorem pd_in {i : Int} {ns : List Int} (ha : PD X a ρ (.int i)) (hb : PD X b ρ d) (hd : d = .tuple (ns.map .int) ∨ d = .list (ns.map .int)) (hm : behindInMarks .In b = false := by rfl) : PD X (.Compare a [.In] [b] pos) ρ (.bool (decide (i ∈ ns))) := pd_cmp op_in_seq (rd_in (neg := false) hd) ha hb hm
theorem pd_notIn {i : Int} {ns : List Int} (ha : PD X a ρ (.int i)) (hb : PD X b ρ d) (hd : d = .tuple (ns.map .int) ∨ d = .list (ns.map .int)) (hm : behindInMarks .NotIn b = false := by rfl) : PD X (.Compare a [.NotIn] [b] pos) ρ (.bool (!decide (i ∈ ns))) := pd_cmp op_notIn_seq (rd_in (neg := true) hd) ha hb hm
/-- a op b op' c of ints -/
theorem pd_chain {op op' : CmpOp} {f g : Int → Int → Bool} {i j k : Int} (ho : OpR X (compareOp op) (rI0 fun i j => .bl (f i j))) (ho' : OpR X (compareOp op') (rI0 fun i j => .bl (g i j))) (ha : PD X a ρ (.int i)) (hb : PD X b ρ (.int j)) (hc : PD X c ρ (.int k))
    (hm : lastMarks [op, op'] [b, c] = false := by with_unfolding_all rfl) : PD X (.Compare a [op, op'] [b, c] pos) ρ (.bool (f i j && g j k)) :=
  pe_mono (pe_chain ho ho' ha hb hc hm) fun σ H Q ⟨H0, B, e, s, q⟩ => ⟨H0, B, e, s, fun x B1 H1 g1 h1 => ⟨H0, B1, g1.sub, s.grow g1, fun y B2 H2 g2 h2 => ⟨i, j, (h1.mono g2.bb).int_inv, h2.int_inv, f i j, rfl, by
    cases z : f i j with
    | false =>
      rw [if_neg Bool.false_ne_true]
      have q' := q (.bl false) B2 H2 (g1.trans g2)
      rw [z] at q'
      exact q' (.bl _)
    | true =>
      rw [if_pos rfl]
      exact ⟨H0, B2, g2.sub, (s.grow g1).grow g2, fun w B3 H3 g3 h3 => ⟨j, k, (h2.mono g3.bb).int_inv, h3.int_inv, by
        have q' := q (.bl (g j k)) B3 H3 ((g1.trans g2).trans g3)
        rw [z] at q'
        exact q' (.bl _)⟩⟩⟩⟩⟩
/-! ### tests, and, or, not, if -/
theorem ptd_val {k : Bool} (h : PD X e ρ (.bool k)) (he : ∀ whole, isTrue e X.env whole = (do let v ← whole; standAt e.pos; holding [v] (truthy v)) := by intro _; rfl) : PTD X e ρ k :=
  pt_mono (pt_val h he) fun σ H Q ⟨H0, B, e, s, q⟩ => ⟨H0, B, e, s, fun v B1 H1 g1 h1 => ⟨k, h1.bl_inv, q B1 H1 g1⟩⟩
theorem ptd_cmp {op : CmpOp} {k : Bool} {r : R2} (ho : OpR X (compareOp op) r) (hr : RD2 r d1 d2 (.bool k)) (ha : PD X a ρ d1) (hb : PD X b ρ d2) (hm : behindInMarks op b = false := by first | exact nomark _ | rfl) : PTD X (.Compare a [op] [b] pos) ρ k :=
  pt_mono (pt_cmpR ho ha hb hm) fun σ H Q ⟨H0, B, e, s, q⟩ => pd_bin hr σ H _ ⟨H0, B, e, s, fun v B1 H1 g1 h1 => ⟨k, h1.bl_inv, q B1 H1 g1⟩⟩
theorem ptd_lt {i j : Int} (ha : PD X a ρ (.int i)) (hb : PD X b ρ (.int j)) : PTD X (.Compare a [.Lt] [b] pos) ρ (decide (i < j)) := ptd_cmp op_lt rd_C0 ha hb (nomark _)
theorem ptd_gt {i j : Int} (ha : PD X a ρ (.int i)) (hb : PD X b ρ (.int j)) : PTD X (.Compare a [.Gt] [b] pos) ρ (decide (j < i)) := ptd_cmp op_gt rd_C0 ha hb (nomark _)
theorem ptd_ge {i j : Int} (ha : PD X a ρ (.int i)) (hb : PD X b ρ (.int j)) : PTD X (.Compare a [.GtE] [b] pos) ρ (decide (j ≤ i)) := ptd_cmp op_ge rd_C0 ha hb (nomark _)
theorem ptd_eq (hu : X.A.units + 64 < cLine) (ha : PD X a ρ d1) (hb : PD X b ρ d2) (h1 : SeqAt.shaped d1 = true) (h2 : SeqAt.shaped d2 = true) : PTD X (.Compare a [.Eq] [b] pos) ρ (PyData.eqv d1 d2) :=
  ptd_cmp (op_eqD hu) (fun x y B H Q e k1 k2 q => ⟨d1, d2, (k1.mono e).dp _, (k2.mono e).dp _, h1, h2, q _ B H (.refl e) (.bl _)⟩) ha hb (nomark _)
theorem ptd_ne (hu : X.A.units + 64 < cLine) (ha : PD X a ρ d1) (hb : PD X b ρ d2) (h1 : SeqAt.shaped d1 = true) (h2 : SeqAt.shaped d2 = true) : PTD X (.Compare a [.NotEq] [b] pos) ρ (!PyData.eqv d1 d2) :=
  ptd_cmp (op_neD hu) (fun x y B H Q e k1 k2 q => ⟨d1, d2, (k1.mono e).dp _, (k2.mono e).dp _, h1, h2, q _ B H (.refl e) (.bl _)⟩) ha hb (nomark _)
theorem ptd_in {i : Int} {ns : List Int} (ha : PD X a ρ (.int i)) (hb : PD X b ρ d) (hd : d = .tuple (ns.map .int) ∨ d = .list (ns.map .int)) (hm : behindInMarks .In b = false := by rfl) : PTD X (.Compare a [.In] [b] pos) ρ (decide (i ∈ ns)) := ptd_cmp op_in_seq (rd_in (neg := false) hd) ha hb hm
theorem ptd_notIn {i : Int} {ns : List Int} (ha : PD X a ρ (.int i)) (hb : PD X b ρ d) (hd : d = .tuple (ns.map .int) ∨ d = .list (ns.map .int)) (hm : behindInMarks .NotIn b = false := by rfl) : PTD X (.Compare a [.NotIn] [b] pos) ρ (!decide (i ∈ ns)) := ptd_cmp op_notIn_seq (rd_in (neg := true) hd) ha hb hm
theorem ptd_not {k : Bool} (h : PTD X e ρ k) : PTD X (.UnaryOp .Not e pos) ρ (!k) := pt_mono (pt_not h) fun σ H Q ⟨H0, B, e, s, q⟩ => ⟨H0, B, e, s, q⟩
theorem pwd_and1 {k : Bool} (h : PTD X e ρ k) : PWD X (.BoolOp .And [e] pos) ρ k := pw_and1 h
theorem pwd_or1 {k : Bool} (h : PTD X e ρ k) : PWD X (.BoolOp .Or [e] pos) ρ k := pw_or1 h
theorem pw_if {p : Prop} {e : Expr} {t : TT} (h : p → PW X e t) : PW X e (fun σ H Q => p ∧ t σ H Q) := ⟨fun whole pins s σ H Q I q => (h q.1).run whole pins s σ H Q I q.2⟩
theorem pe_if {p : Prop} {e : Expr} {t : TE} (h : p → PE X e t) : PE X e (fun σ H Q => p ∧ t σ H Q) := ⟨fun pins s σ H Q I q => (h q.1).run pins s σ H Q I q.2⟩
theorem pss_if {p : Prop} {e : List Stmt} {t : TS} (h : p → PSs X e t) : PSs X e (fun D σ H => p ∧ t D σ H) := ⟨fun pins s σ H D I q => (h q.1).run pins s σ H D I q.2⟩
theorem pwd_and {k k' : Bool} {rest : List Expr} (h : PTD X a ρ k) (hr : k = true → PWD X (.BoolOp .And (b :: rest) pos) ρ k') : PWD X (.BoolOp .And (a :: b :: rest) pos) ρ (k && k') :=
  pw_mono (pw_and h (pw_if hr)) fun σ H Q ⟨H0, B, e, s, q⟩ => ⟨H0, B, e, s, fun B1 H1 g1 => by
    cases k with
    | false => exact q B1 H1 g1
    | true => exact ⟨rfl, H0, B1, g1.sub, s.grow g1, fun B2 H2 g2 => q B2 H2 (g1.trans g2)⟩⟩
theorem pwd_or {k k' : Bool} {rest : List Expr} (h : PTD X a ρ k) (hr : k = false → PWD X (.BoolOp .Or (b :: rest) pos) ρ k') : PWD X (.BoolOp .Or (a :: b :: rest) pos) ρ (k || k') :=
  pw_mono (pw_or h (pw_if hr)) fun σ H Q ⟨H0, B, e, s, q⟩ => ⟨H0, B, e, s, fun B1 H1 g1 => by
    cases k with
    | true => exact q B1 H1 g1
    | false => exact ⟨rfl, H0, B1, g1.sub, s.grow g1, fun B2 H2 g2 => q B2 H2 (g1.trans g2)⟩⟩
theorem pd_one {op : BoolOp} (h : PD X e ρ d) : PD X (.BoolOp op [e] pos) ρ d := pe_one h
theorem pd_and {k k' : Bool} {rest : List Expr} (h : PD X a ρ (.bool k)) (hr : k = true → PD X (.BoolOp .And (b :: rest) pos) ρ (.bool k')) : PD X (.BoolOp .And (a :: b :: rest) pos) ρ (.bool (k && k')) :=
  pe_mono (pe_and h (pe_if hr)) fun σ H Q ⟨H0, B, e, s, q⟩ => ⟨H0, B, e, s, fun v B1 H1 g1 h1 => ⟨k, h1.bl_inv, by
    cases k with
    | false => exact q _ B1 H1 g1 (.bl _)
    | true => exact ⟨rfl, H0, B1, g1.sub, s.grow g1, fun v B2 H2 g2 h2 => q v B2 H2 (g1.trans g2) h2⟩⟩⟩
theorem pd_or {k k' : Bool} {rest : List Expr} (h : PD X a ρ (.bool k)) (hr : k = false → PD X (.BoolOp .Or (b :: rest) pos) ρ (.bool k')) : PD X (.BoolOp .Or (a :: b :: rest) pos) ρ (.bool (k || k')) :=
  pe_mono (pe_or h (pe_if hr)) fun σ H Q ⟨H0, B, e, s, q⟩ => ⟨H0, B, e, s, fun v B1 H1 g1 h1 => ⟨k, h1.bl_inv, by
    cases k with
    | true => exact q _ B1 H1 g1 (.bl _)
    | false => exact ⟨rfl, H0, B1, g1.sub, s.grow g1, fun v B2 H2 g2 h2 => q v B2 H2 (g1.trans g2) h2⟩⟩⟩
theorem pd_not {k : Bool} (h : PD X e ρ (.bool k)) : PD X (.UnaryOp .Not e pos) ρ (.bool (!k)) :=
  pe_mono (pe_not h) fun σ H Q ⟨H0, B, e, s, q⟩ => ⟨H0, B, e, s, fun v B1 H1 g1 h1 => ⟨k, h1.bl_inv, q _ B1 H1 g1 (.bl _)⟩⟩
theorem pd_if {k : Bool} (hc : PTD X c ρ k) (ha : k = true → PD X a ρ d) (hb : k = false → PD X b ρ d) : PD X (.IfExp c a b pos) ρ d :=
  pe_mono (pe_ifExp hc (pe_if ha) (pe_if hb)) fun σ H Q ⟨H0, B, e, s, q⟩ => ⟨H0, B, e, s, fun B1 H1 g1 => by
    cases k with
    | true => exact ⟨rfl, H0, B1, g1.sub, s.grow g1, fun v B2 H2 g2 h2 => q v B2 H2 (g1.trans g2) h2⟩
    | false => exact ⟨rfl, H0, B1, g1.sub, s.grow g1, fun v B2 H2 g2 h2 => q v B2 H2 (g1.trans g2) h2⟩⟩
end
end Dc
end

section
set_option maxHeartbeats 4000000
namespace Dc
open PySem PySem.Spec PyProof.Rows L2
section
variable {X : Cx} {ρ : Env} {e a b c : Expr} {es : List Expr} {d d1 d2 : PyData} {ds ds1 es' : List PyData} {pos p : Pos}
/-! ### built-ins by name -/
def RDc (r : List V → Hp → VK → Prop) (ds : List PyData) (d : PyData) : Prop := ∀ vs B H (Q : VK), Same B H → DdAll B vs ds → (∀ v B' H', Grow B H B' H' → Dd B' v d → Q v H') → r vs H Q
theorem tcb {r : List V → Hp → VK → Prop} (hr : RDc r ds d) : ∀ σ H Q, tD ρ d σ H Q → tCB r (tDs ρ ds) σ H Q := fun σ H Q ⟨H0, B, e, s, q⟩ =>
  ⟨H0, B, e, s, fun vs B1 H1 g1 h1 => hr vs B1 H1 Q g1.sub h1 fun v B2 H2 g2 h2 => q v B2 H2 (g1.trans g2) h2⟩
theorem pd_callB {x : Str} {id : String} {r : List V → Hp → VK → Prop} (hc : CallR X (.builtin id) r) (hr : RDc r ds d) (hm : X.mg x = none) (hv : bootBuiltins x = some (.builtin id)) (ha : PDs X (e :: es) ρ ds) (hg : Gl X x := by rfl) (hn : x ≠ "__name__" := by decide) (hdb : (x == ("__debug__" : Str)) = false := by decide)
    (he : starEach (e :: es) X.env = (false, eval e X.env) :: starEach es X.env := by rfl) (hpl : (backTo pos (starEach es X.env)).any (·.1) = false := by rfl) : PD X (.Call (.Name x p) (e :: es) [] pos) ρ d :=
  pe_mono (pe_callB hc hg hm hv ha hn hdb he hpl) (tcb hr)
theorem pd_callTy {x : Str} {T : String} {r : List V → Hp → VK → Prop} (hc : CallR X (.type T) r) (hr : RDc r ds d) (hm : X.mg x = none) (hv : bootBuiltins x = some (.type T)) (ha : PDs X (e :: es) ρ ds) (hg : Gl X x := by rfl) (hn : x ≠ "__name__" := by decide) (hdb : (x == ("__debug__" : Str)) = false := by decide)
    (he : starEach (e :: es) X.env = (false, eval e X.env) :: starEach es X.env := by rfl) (hpl : (backTo pos (starEach es X.env)).any (·.1) = false := by rfl) : PD X (.Call (.Name x p) (e :: es) [] pos) ρ d :=
  pe_mono (pe_callTy hc hg hm hv ha hn hdb he hpl) (tcb hr)
theorem DdAll.one {B : Hp} {vs : List V} (h : DdAll B vs [d]) : ∃ v, vs = [v] ∧ Dd B v d := by
  cases h with
  | cons h k => cases k; exact ⟨_, rfl, h⟩
theorem DdAll.two {B : Hp} {vs : List V} (h : DdAll B vs [d1, d2]) : ∃ v w, vs = [v, w] ∧ Dd B v d1 ∧ Dd B w d2 := by
  cases h with
  | cons h k => obtain ⟨w, rfl, h2⟩ := k.one; exact ⟨_, w, rfl, h, h2⟩
/-- a list or a tuple of these -/
def IsSeq (d : PyData) (ds : List PyData) : Prop := d = .list ds ∨ d = .tuple ds
theorem Dd.seq {K : PySem.W.Frag} {B H : Hp} {v : V} (e : Same B H) (h : Dd B v d) (hs : IsSeq d ds) : ∃ p xs, v = .ref p ∧ (SqL K H p xs ∨ SqT K H p xs) ∧ DdAll B xs ds := by
  rcases hs with z | z
  · subst z
    obtain ⟨a, xs, rfl, ha, hx⟩ := h.lst_inv
    exact ⟨a, xs, rfl, .inl (SqL.of (e _ _ ha)), hx⟩
  · subst z
    obtain ⟨a, xs, rfl, ha, hx⟩ := h.tup_inv
    exact ⟨a, xs, rfl, .inr (sqt e ha), hx⟩
theorem pd_len (hm : X.mg "len" = none) (ha : PD X e ρ d) (hs : IsSeq d ds) (h1 : starEach (e :: []) X.env = (false, eval e X.env) :: starEach [] X.env := by rfl) (hg : Gl X "len" := by rfl) : PD X (.Call (.Name "len" p) [e] [] pos) ρ (.int ds.length) :=
  pd_callB call_len_seq (fun vs B H Q e h q => by
    obtain ⟨v, rfl, h'⟩ := h.one
    obtain ⟨p, xs, rfl, hx, hd⟩ := h'.seq (K := X.K) e hs
    refine ⟨p, xs, rfl, hx, ?_⟩
    rw [hd.length]
    exact q _ B H (.refl e) (.int _)) hm PySem.boot_len (pds_one ha h1) hg (by decide) (by decide) h1
theorem pd_list (hm : X.mg "list" = none) (ha : PD X e ρ d) (hs : IsSeq d ds) (h1 : starEach (e :: []) X.env = (false, eval e X.env) :: starEach [] X.env := by rfl) (hg : Gl X "list" := by rfl) : PD X (.Call (.Name "list" p) [e] [] pos) ρ (.list ds) :=
  pd_callTy call_list_of (fun vs B H Q e h q => by
    obtain ⟨v, rfl, h'⟩ := h.one
    obtain ⟨p, xs, rfl, hx, hd⟩ := h'.seq (K := X.K) e hs
    exact ⟨p, xs, rfl, hx, fun l hl => q _ _ _ (.new e hl) (.lst upd_same (hd.mono (same_new (e.free hl) _)))⟩) hm PyProof.Rows.boot_list (pds_one ha h1) hg (by decide) (by decide) h1
theorem pd_tuple (hm : X.mg "tuple" = none) (ha : PD X e ρ (.list ds)) (h1 : starEach (e :: []) X.env = (false, eval e X.env) :: starEach [] X.env := by rfl) (hg : Gl X "tuple" := by rfl) : PD X (.Call (.Name "tuple" p) [e] [] pos) ρ (.tuple ds) :=
  pd_callTy call_tuple_of (fun vs B H Q e h q => by
    obtain ⟨v, rfl, h'⟩ := h.one
    obtain ⟨a, xs, rfl, ha, hd⟩ := h'.lst_inv
    exact ⟨a, xs, rfl, .inl ⟨SqL.of (e _ _ ha), fun l hl => q _ _ _ (.new e hl) (.tup (.inl upd_same) (hd.mono (same_new (e.free hl) _)))⟩⟩) hm PyProof.Rows.boot_tuple (pds_one ha h1) hg (by decide) (by decide) h1
/-- tuple(x) of a list that grows -/
theorem pd_tupleOwn (i : Nat) {x : Str} {px : Pos} (hm : X.mg "tuple" = none) (hi : ρ[i]? = some (.lst ds) := by rfl) (hN : X.N[i]? = some x := by rfl) (hv : Vis X.env.scope x := by first | exact Or.inl rfl | exact Or.inr (Or.inl rfl) | exact Or.inr (Or.inr rfl)) (h1 : (x == ("__debug__" : Str)) = false := by decide) (h2 : (x == ("__classdict__" : Str)) = false := by decide)
    (hg : Gl X "tuple" := by rfl) : PD X (.Call (.Name "tuple" p) [.Name x px] [] pos) ρ (.tuple ds) :=
  pe_mono (pe_callTy call_tuple_of hg hm PyProof.Rows.boot_tuple (pa_cons (pe_var hN hv h1 h2) pa_nil)) fun σ H Q ⟨H0, B, e, s, q⟩ => by
    obtain ⟨l, xs, h1, h2, h3, h4, h5⟩ := s.lst hi
    exact ⟨_, h1, l, xs, rfl, .inl ⟨SqL.of h2, fun p hp => q _ _ _ (.new e hp) (.tup (.inl upd_same) (h5.mono (same_new (e.free hp) _)))⟩⟩
theorem pd_all (hc : X.calm = true) (hm : X.mg "all" = none) {bs : List Bool} (ha : PD X e ρ (.list (bs.map .bool))) (h1 : starEach (e :: []) X.env = (false, eval e X.env) :: starEach [] X.env := by rfl) (hg : Gl X "all" := by rfl) : PD X (.Call (.Name "all" p) [e] [] pos) ρ (.bool (bs.all id)) :=
  pd_callB (cr_all hc) (fun vs B H Q e h q => by
    obtain ⟨v, rfl, h'⟩ := h.one
    obtain ⟨a, xs, rfl, ha, hd⟩ := h'.lst_inv
    exact ⟨a, bs, rfl, by rw [← hd.bls]; exact SqL.of (e _ _ ha), q _ B H (.refl e) (.bl _)⟩) hm boot_all (pds_one ha h1) hg (by decide) (by decide) h1
theorem pd_any (hc : X.calm = true) (hm : X.mg "any" = none) {bs : List Bool} (ha : PD X e ρ (.list (bs.map .bool))) (h1 : starEach (e :: []) X.env = (false, eval e X.env) :: starEach [] X.env := by rfl) (hg : Gl X "any" := by rfl) : PD X (.Call (.Name "any" p) [e] [] pos) ρ (.bool (bs.any id)) :=
  pd_callB (cr_any hc) (fun vs B H Q e h q => by
    obtain ⟨v, rfl, h'⟩ := h.one
    obtain ⟨a, xs, rfl, ha, hd⟩ := h'.lst_inv
    exact ⟨a, bs, rfl, by rw [← hd.bls]; exact SqL.of (e _ _ ha), q _ B H (.refl e) (.bl _)⟩) hm boot_any (pds_one ha h1) hg (by decide) (by decide) h1
theorem pd_intB (hm : X.mg "int" = none) {k : Bool} (ha : PD X e ρ (.bool k)) (h1 : starEach (e :: []) X.env = (false, eval e X.env) :: starEach [] X.env := by rfl) (hg : Gl X "int" := by rfl) : PD X (.Call (.Name "int" p) [e] [] pos) ρ (.int (if k then 1 else 0)) :=
  pd_callTy call_int1 (fun vs B H Q e h q => by
    obtain ⟨v, rfl, h'⟩ := h.one
    exact .inr ⟨k, by rw [h'.bl_inv], q _ B H (.refl e) (.int _)⟩) hm PyProof.Rows.boot_int (pds_one ha h1) hg (by decide) (by decide) h1
/-! ### isinstance -/
def tyD : PyData → String
  | .none => "NoneType"
  | .bool _ => "bool"
  | .int _ => "int"
  | .str _ => "str"
  | .list _ => "list"
  | .tuple _ => "tuple"
  | .dict _ => "dict"
theorem Dd.ty {K : PySem.W.Frag} {B H : Hp} {v : V} (e : Same B H) (h : Dd B v d) : TyX K H v (.type (tyD d)) := by
  cases h with
  | non => exact .base .non
  | bl b => exact .base (.bl b)
  | int i => exact .base (.int i)
  | str x => exact .base (.str x)
  | lst h k => exact .base (.lst (e _ _ h))
  | tup h k =>
    rcases rd_mono e h with z | ⟨o, z⟩
    · exact .base (.tup z)
    · exact .fTuple z
theorem pd_isi {x : Str} {T : String} {k : Bool} {p2 : Pos} (hm : X.mg "isinstance" = none) (hT : X.mg x = none) (hv : bootBuiltins x = some (.type T)) (ha : PD X e ρ d) (hk : kitB (tyD d) T = some k := by decide +kernel) (hg : Gl X "isinstance" := by rfl) (hgT : Gl X x := by rfl) (hn : x ≠ "__name__" := by decide) (hdb : (x == ("__debug__" : Str)) = false := by decide)
    (h1 : starEach (e :: [.Name x p2]) X.env = (false, eval e X.env) :: starEach [.Name x p2] X.env := by rfl) : PD X (.Call (.Name "isinstance" p) [e, .Name x p2] [] pos) ρ (.bool k) :=
  pe_mono (pe_callB call_isi hg hm PyProof.Rows.boot_isinstance (pa_cons ha (pa_cons (pe_bltn (v := .ty T) hgT hT hv rfl hn hdb) pa_nil) h1) (by decide) (by decide) h1) fun σ H Q ⟨H0, B, e, s, q⟩ =>
    ⟨H0, B, e, s, fun v B1 H1 g1 h1 => ⟨v, .ty T, _, _, k, rfl, .ty T, h1.ty g1.sub, kit_ty hk, q _ B1 H1 g1 (.bl _)⟩⟩
theorem pd_isi2 {x y : Str} {T U : String} {k l : Bool} {p2 p3 pt : Pos} {kt} (hm : X.mg "isinstance" = none) (hT : X.mg x = none) (hU : X.mg y = none) (hv : bootBuiltins x = some (.type T)) (hw : bootBuiltins y = some (.type U)) (ha : PD X e ρ d) (hk : kitB (tyD d) T = some k := by decide +kernel) (hl : kitB (tyD d) U = some l := by decide +kernel)
    (hg : Gl X "isinstance" := by rfl) (hgT : Gl X x := by rfl) (hgU : Gl X y := by rfl) (hn : x ≠ "__name__" := by decide) (hdb : (x == ("__debug__" : Str)) = false := by decide) (hn' : y ≠ "__name__" := by decide) (hdb' : (y == ("__debug__" : Str)) = false := by decide)
    (h1 : starEach (e :: [.Tuple [.Name x p2, .Name y p3] kt pt]) X.env = (false, eval e X.env) :: starEach [.Tuple [.Name x p2, .Name y p3] kt pt] X.env := by rfl) : PD X (.Call (.Name "isinstance" p) [e, .Tuple [.Name x p2, .Name y p3] kt pt] [] pos) ρ (.bool (k || l)) :=
  pe_mono (pe_callB call_isiT hg hm PyProof.Rows.boot_isinstance (pa_cons ha (pa_cons (pe_tup (pa_cons (pe_bltn (v := .ty T) hgT hT hv rfl hn hdb) (pa_cons (pe_bltn (v := .ty U) hgU hU hw rfl hn' hdb') pa_nil))) pa_nil) h1) (by decide) (by decide) h1) fun σ H Q ⟨H0, B, e, s, q⟩ =>
    ⟨H0, B, e, s, fun v B1 H1 g1 h1 => ⟨by show 2 ≤ sizeLine; decide, fun tp htp => by
      have g2 : Grow B1 H1 B1 (upd H1 tp (.tup [.ty T, .ty U])) := .aside g1.sub htp
      refine ⟨v, tp, [.ty T, .ty U], _, [.type T, .type U], k || l, rfl, upd_same, .cons (.ty T) (.cons (.ty U) .nil), h1.ty g2.sub, ?_, q _ B1 _ (g1.trans g2) (.bl _)⟩
      refine kitAny_cons (kit_ty hk) (fun z => kitAny_cons (kit_ty hl) (fun z2 => ?_) fun z2 => ?_) fun z => by rw [z]; rfl
      · rw [z, z2]; exact kitAny_nil
      · rw [z2, Bool.or_true]⟩⟩
/-! ### sorted, set -/
theorem asc_uniq : ∀ {l m : List Int}, l.Pairwise (· < ·) → m.Pairwise (· < ·) → (∀ x, x ∈ l ↔ x ∈ m) → l = m
  | [], [], _, _, _ => rfl
  | [], b :: m, _, _, h => absurd ((h b).mpr List.mem_cons_self) (by simp)
  | a :: l, [], _, _, h => absurd ((h a).mp List.mem_cons_self) (by simp)
  | a :: l, b :: m, hl, hm, h => by
    have hl' := List.pairwise_cons.mp hl
    have hm' := List.pairwise_cons.mp hm
    have hab : a = b := by
      rcases List.mem_cons.mp ((h a).mp List.mem_cons_self) with e | h1
      · exact e
      · rcases List.mem_cons.mp ((h b).mpr List.mem_cons_self) with e | h2
        · exact e.symm
        · have := hm'.1 _ h1
          have := hl'.1 _ h2
          omega
    subst hab
    refine congrArg (a :: ·) (asc_uniq hl'.2 hm'.2 fun x => ⟨fun hx => ?_, fun hx => ?_⟩)
    · have := hl'.1 _ hx
      rcases List.mem_cons.mp ((h x).mp (List.mem_cons_of_mem _ hx)) with e | h'
      · omega
      · exact h'
    · have := hm'.1 _ hx
      rcases List.mem_cons.mp ((h x).mpr (List.mem_cons_of_mem _ hx)) with e | h'
      · omega
      · exact h'
theorem sorted_uniq : ∀ {l m : List Int}, l.Perm m → l.Pairwise (· ≤ ·) → m.Pairwise (· ≤ ·) → l = m
  | [], m, p, _, _ => p.nil_eq
  | a :: l, [], p, _, _ => absurd p.symm (by simp)
  | a :: l, b :: m, p, hl, hm => by
    have hl' := List.pairwise_cons.mp hl
    have hm' := List.pairwise_cons.mp hm
    have hab : a = b := by
      rcases List.mem_cons.mp (p.subset List.mem_cons_self) with e | h1
      · exact e
      · rcases List.mem_cons.mp (p.symm.subset List.mem_cons_self) with e | h2
        · exact e.symm
        · have := hm'.1 _ h1
          have := hl'.1 _ h2
          omega
    subst hab
    exact congrArg (a :: ·) (sorted_uniq (List.Perm.cons_inv p) hl'.2 hm'.2)
/-- sorted(x), x a list of ints; ms: the rising list -/
theorem pd_sorted {ns : List Int} (ms : List Int) (hm : X.mg "sorted" = none) (ha : PD X e ρ (.list (ns.map .int))) (hl : ns.length < 64) (hp : ms.Perm ns) (hs : ms.Pairwise (· ≤ ·)) (h1 : starEach (e :: []) X.env = (false, eval e X.env) :: starEach [] X.env := by rfl) (hg : Gl X "sorted" := by rfl) : PD X (.Call (.Name "sorted" p) [e] [] pos) ρ (.list (ms.map .int)) :=
  pd_callB cr_sorted (fun vs B H Q e h q => by
    obtain ⟨v, rfl, h'⟩ := h.one
    obtain ⟨a, xs, rfl, ha, hd⟩ := h'.lst_inv
    refine ⟨a, ns, rfl, by rw [← hd.ints]; exact SqL.of (e _ _ ha), hl, fun ns' p hp' hs' np => ?_⟩
    have ee : ns' = ms := sorted_uniq (hp'.trans hp.symm) hs' hs
    subst ee
    exact q _ _ _ (.new e np) (.lst upd_same (.ofInts ns'))) hm PyProof.Rows.boot_sorted (pds_one ha h1) hg (by decide) (by decide) h1
end
end Dc
end

section
set_option maxHeartbeats 8000000
namespace Dc
open PySem PySem.Spec PyProof.Rows L2
/-! ### set(x), x a list of ints -/
/-- the set that set.__new__ leaves -/
abbrev bareSet (w : World) : Obj := { cls := .type "set", dict := none, data := .set #[] 0 (.fresh 0 0 (!w.params.followText "set-order")) }
section
variable {P : Program} {w : World} {A : Around} {E : Value → Shared → Prop} {s : Shared}
theorem call_set_lstI {l : Addr} {items : Array Value} (ns : List Int) {Q : Value → Shared → Prop} (free : A.handled = none) (isL : s.heap.IsList l items) (are : IntsAre items.toList ns) (few : ns.length + 1 < scanBound)
    (out : ∀ (g : Heap) (tk c : Nat), SetR w g s.heap.objs.size (fun j => decide (j ∈ ns)) c → c ≤ ns.length → (∀ b o, s.heap.get? b = some o → g.get? b = some o) → Q (.ref s.heap.objs.size) { s with heap := g, toks := tk }) :
    wpAny (model P w) A (call (.type "set") [.ref l]) Q E s := by
  have size_eq : items.size = ns.length := by rw [← Array.length_toList]; exact are.length
  have ⟨c, tl, hmro⟩ := F.called_set.mro
  have m1 := F.called_set.made
  have m2 := F.called_set.sub
  have m3 := F.called_set.notType
  have m4 := F.called_set.canCreate
  have m5 := F.typeCall_set_1 (.ref l)
  refine wpAny_call (codeAny_of_tree (?_ : wpAny _ _ (callAny (.type "set") _) _ _ _))
  refine wpAny_pure ⟨Code.quiet_builtin _ (by decide +kernel), codeAny_builtin F.entry_type_call ?_⟩
  rw [Around.under_plain (weight_type_call_type "set" [.ref l] []) rfl]
  repeat (any_goals (first | assumption | wp_step))
  refine codeAny_mono (code_set_led1 (.ref l) (E := E) (Q₁ := fun obj t => obj = .ref s.heap.objs.size ∧ t = { s with heap := s.heap.push (bareSet w) }) ⟨rfl, rfl⟩) fun r t hr => ?_
  rcases r with e | fl
  · exact hr
  rcases fl with _ | _ | _ | obj
  · exact hr.elim
  · exact hr.elim
  · exact hr.elim
  obtain ⟨rfl, rfl⟩ := hr
  have got : (s.heap.push (bareSet w)).get? s.heap.objs.size = some (bareSet w) := Heap.get?_push_size _ rfl
  have isT : Shared.TypeIs { s with heap := s.heap.push (bareSet w) } (.ref s.heap.objs.size) "set" := ⟨_, got, rfl⟩
  have n1 := F.called_set.init.lookup
  have n2 := F.called_set.init.bind (.ref s.heap.objs.size)
  repeat (any_goals (first | assumption | wp_step))
  refine codeAny_mono (codeAny_call_builtin (R := wants (fun r t => r = .none ∧ ∃ g tk c, t = { s with heap := g, toks := tk } ∧ SetR w g s.heap.objs.size (fun j => decide (j ∈ ns)) c ∧ c ≤ ns.length ∧ (∀ b o, s.heap.get? b = some o → g.get? b = some o)) E)
    F.called_set.init.plain F.entry_set_init (check_set_init_1 isT ?_)) fun r t hr => ?_
  · obtain ⟨ol, hol, hcl, nl, hdl⟩ := isL
    obtain ⟨oc, od, dt, osl⟩ := ol
    dsimp only at hcl hdl
    subst hcl hdl
    have kept : (s.heap.push (bareSet w)).get? l = some { cls := .type "list", dict := od, data := .seq items nl, slots := osl } := Heap.get?_push_of_some _ hol
    have isL1 : (s.heap.push (bareSet w)).IsList l items := ⟨_, kept, rfl, nl, rfl⟩
    have low : l < s.heap.objs.size := Heap.lt_size hol
    have s1 := F.sub_list_set
    have s2 := F.sub_list_frozenset
    have s3 : (Value.type "list" == Value.type "dict") = false := by decide
    unfold Builtin.«set.__init__» noKeywords Builtin.Frozenset.updateFrom
    generalize keepIter : pyIter = it
    wp_walk
    subst keepIter
    refine wpAny_pyIter_list isL1 (wpAny_bind (wpAny_runValue ?_))
    have free3 : A.in1.in1.in1.handled = none := free
    have sz1 : (s.heap.push (bareSet w)).objs.size = s.heap.objs.size + 1 := Heap.size_push ..
    have ne1 : l ≠ (s.heap.push (bareSet w)).objs.size := by rw [sz1]; exact Nat.ne_of_lt (Nat.lt_succ_of_lt low)
    have off : s.heap.objs.size ∉ [(s.heap.push (bareSet w)).objs.size, l] := by
      rw [sz1]
      intro z
      rcases List.mem_cons.mp z with z | z
      · exact absurd z (Nat.ne_of_lt (Nat.lt_succ_self _))
      · exact absurd (List.mem_singleton.mp z) (Nat.ne_of_gt low)
    have vals : ∀ (i : Nat) (v : Value), items[i]? = some v → ∃ k t, ns[i]? = some k ∧ v = .int k t := fun i v hv => by
      have hi : i < ns.length := by rw [← size_eq]; exact (Array.getElem?_eq_some_iff.mp hv).1
      obtain ⟨t, e⟩ := PyProof.Rows.IntsAre.int_at are i v (by rw [Array.getElem?_toList]; exact hv)
      exact ⟨ns[i], t, List.getElem?_eq_getElem hi, by rw [e, List.getD_eq_getElem?_getD, List.getElem?_eq_getElem hi] <;> rfl⟩
    refine set_update_ints ((Walks.list free3 _ l ne1 items).toS) s.heap.objs.size off ns size_eq few vals (items.size - 0) 0 _ (by omega) (Nat.zero_le _) ⟨⟨_, Heap.get?_push_size _ rfl, rfl, rfl⟩, (isL1.push _)⟩
      ⟨0, Nat.le_refl 0, setR_new_at (Heap.get?_push_of_some _ got)⟩ fun t c2 moved few2 isS => ?_
    obtain ⟨g, g2, d2, tk2, os2⟩ := t
    obtain rfl : g2 = s.gens := moved.gens
    obtain rfl : d2 = s.drawn := moved.drawn
    obtain rfl : os2 = s.os := moved.os
    refine wpAny_pure (wpAny_pure ⟨rfl, g, tk2, c2, rfl, isS, by rw [← size_eq]; exact few2, fun b o e => ?_⟩)
    have hb := Heap.lt_size e
    refine moved.heap b o (fun z => ?_) (Heap.get?_push_of_some _ (Heap.get?_push_of_some _ e))
    rcases List.mem_cons.mp z with z | z
    · exact absurd z (Nat.ne_of_lt hb)
    · have := List.mem_singleton.mp z
      rw [sz1] at this
      exact absurd this (Nat.ne_of_lt (Nat.lt_succ_of_lt hb))
  · rcases r with e | fl
    · exact hr
    rcases fl with _ | _ | _ | u
    · exact hr.elim
    · exact hr.elim
    · exact hr.elim
    obtain ⟨rfl, g, tk, c2, rfl, isS, few2, kp⟩ := hr
    repeat (any_goals (first | assumption | wp_step))
    exact out _ _ _ isS few2 kp
end
/-- set(x), x a list or a tuple of ints -/
def rSetI (K : PySem.W.Frag) (w : World) : List V → Hp → VK → Prop := fun xs H Q => ∃ (p : Addr) (ns : List Int), xs = [.ref p] ∧ (SqL K H p (ns.map V.int) ∨ SqT K H p (ns.map V.int)) ∧ ns.length ≤ 60 ∧
  ∀ q c, H q = none → c ≤ ns.length → Q (.ref q) (upd H q (SetO w q (fun j => decide (j ∈ ns)) c))
theorem cr_setI {X : Cx} (hc : X.calm = true) : CallR X (.type "set") (rSetI X.K X.w) := by
  intro pins s σ H xs us Q I r q
  obtain ⟨p, ns, rfl, hs, hz, q⟩ := q
  obtain ⟨u, rfl, rx⟩ := vals1 r
  obtain rfl : u = Value.ref p := rx
  have few : ns.length + 1 < scanBound := Nat.lt_of_le_of_lt (Nat.succ_le_succ hz) (by decide)
  have last : ∀ (g : Heap) (tk c : Nat), SetR X.w g s.heap.objs.size (fun j => decide (j ∈ ns)) c → c ≤ ns.length → (∀ b o, s.heap.get? b = some o → g.get? b = some o) → EP X pins σ Q (.ref s.heap.objs.size) { s with heap := g, toks := tk } := fun g tk c R hc k =>
    ⟨.ref s.heap.objs.size, upd H s.heap.objs.size (SetO X.w s.heap.objs.size (fun j => decide (j ∈ ns)) c), I.laid (t' := tk) k (Nat.le_refl _) (setO_new R), rfl, q _ _ (I.hok.fresh (Nat.le_refl _)) hc⟩
  rcases hs with hs | hs
  · obtain ⟨its, rv, pl, hz⟩ := I.list hs
    exact call_set_lstI ns (I.ok.hd hc) pl.isList (by rw [List.toList_toArray]; exact rv.ints) few last
  · obtain ⟨its, rv, pl, hz⟩ := I.tuple hs
    exact call_set_tupI ns (I.ok.hd hc) pl (by rw [List.toList_toArray]; exact rv.ints) few last
end Dc
end

section
set_option maxHeartbeats 4000000
namespace Dc
open PySem PySem.Spec PyProof.Rows L2
section
variable {X : Cx} {ρ : Env} {e a b c : Expr} {es : List Expr} {d d1 d2 : PyData} {ds ds1 es' : List PyData} {pos p : Pos}
/-! ### slices -/
def cutL {α : Type} (xs : List α) (lo hi : Option Int) : List α := (xs.drop (HT.sIx xs.length 0 lo)).take (HT.sIx xs.length xs.length hi - HT.sIx xs.length 0 lo)
theorem DdAll.cut {B : Hp} {xs : List V} (h : DdAll B xs ds) (lo hi : Option Int) : DdAll B (cutV xs lo hi) (cutL ds lo hi) := by
  unfold cutV cutL
  rw [h.length]
  exact (h.drop _).take _
theorem cut_from {α : Type} (xs : List α) (k : Nat) : cutL xs (some (k : Int)) none = xs.drop k := by
  unfold cutL
  rw [HT.sIx_nat, HT.sIx_none]
  by_cases c : k ≤ xs.length
  · rw [Nat.min_eq_left c]
    exact List.take_of_length_le (by rw [List.length_drop]; exact Nat.le_refl _)
  · rw [Nat.min_eq_right (by omega), List.drop_of_length_le (Nat.le_refl _), List.drop_of_length_le (by omega)]
    exact List.take_nil
theorem cut_to {α : Type} (xs : List α) (k : Nat) : cutL xs none (some (k : Int)) = xs.take k := by
  unfold cutL
  rw [HT.sIx_nat, HT.sIx_none]
  by_cases c : k ≤ xs.length
  · rw [Nat.min_eq_left c]; rfl
  · rw [Nat.min_eq_right (by omega), List.take_of_length_le (l := xs) (by omega)]
    exact List.take_of_length_le (by show xs.length ≤ xs.length - 0; omega)
theorem pod_none : POD X none ρ none := po_mono po_none fun σ H Q ⟨H0, B, e, s, q⟩ => q B H (.refl e)
theorem pod_some {i : Int} (h : PD X e ρ (.int i)) : POD X (some e) ρ (some i) := po_mono (po_some h) fun σ H Q ⟨H0, B, e, s, q⟩ => ⟨H0, B, e, s, fun v B1 H1 g1 h1 => ⟨i, h1.int_inv, q B1 H1 g1⟩⟩
theorem tsl {r : V → Option Int → Option Int → Hp → VK → Prop} {lo hi : Option Int} (hr : ∀ x B H (Q : VK), Same B H → Dd B x d1 → (∀ v B' H', Grow B H B' H' → Dd B' v d → Q v H') → r x lo hi H Q) : ∀ σ H Q, tD ρ d σ H Q → tSl r (tD ρ d1) (tDO ρ lo) (tDO ρ hi) σ H Q := fun σ H Q ⟨H0, B, e, s, q⟩ =>
  ⟨H0, B, e, s, fun x B1 H1 g1 h1 => ⟨H0, B1, g1.sub, s.grow g1, fun B2 H2 g2 => ⟨H0, B2, g2.sub, (s.grow g1).grow g2, fun B3 H3 g3 => hr x B3 H3 Q g3.sub ((h1.mono g2.bb).mono g3.bb) fun v B4 H4 g4 h4 => q v B4 H4 (((g1.trans g2).trans g3).trans g4) h4⟩⟩⟩
theorem pd_slL {l u : Option Expr} {lo hi : Option Int} {p2 : Pos} (ha : PD X e ρ (.list ds)) (hl : POD X l ρ lo) (hu : POD X u ρ hi) : PD X (.Subscript e (.Slice l u none p2) pos) ρ (.list (cutL ds lo hi)) :=
  pe_mono (pe_slice sl_list ha hl hu) (tsl fun x B H Q e h q => by
    obtain ⟨a, xs, rfl, ha, hx⟩ := h.lst_inv
    exact ⟨a, xs, rfl, SqL.of (e _ _ ha), fun p hp => q _ _ _ (.new e hp) (.lst upd_same ((hx.cut lo hi).mono (same_new (e.free hp) _)))⟩)
theorem pd_slT {l u : Option Expr} {lo hi : Option Int} {p2 : Pos} (ha : PD X e ρ (.tuple ds)) (hl : POD X l ρ lo) (hu : POD X u ρ hi) : PD X (.Subscript e (.Slice l u none p2) pos) ρ (.tuple (cutL ds lo hi)) :=
  pe_mono (pe_slice sl_tupA ha hl hu) (tsl fun x B H Q e h q => by
    obtain ⟨a, xs, rfl, ha, hx⟩ := h.tup_inv
    refine ⟨a, xs, rfl, sqt e ha, fun ⟨z1, z2⟩ => ?_, fun _ p hp => q _ _ _ (.new e hp) (.tup (.inl upd_same) ((hx.cut lo hi).mono (same_new (e.free hp) _)))⟩
    have w : cutL ds lo hi = ds := by
      unfold cutL
      rw [← hx.length, z1, z2, hx.length]
      exact List.take_of_length_le (Nat.le_refl _)
    rw [w] at q
    exact q _ B H (.refl e) (.tup ha hx))
/-! ### tuple + tuple, list + list, list * int -/
theorem pd_catT (ha : PD X a ρ (.tuple ds)) (hb : PD X b ρ (.tuple ds1)) (hz : ds.length + ds1.length ≤ 100000) : PD X (.BinOp a .Add b pos) ρ (.tuple (ds ++ ds1)) :=
  pd_op op_catA (fun x y B H Q e h1 h2 q => by
    obtain ⟨a, xs, rfl, ha, hx⟩ := h1.tup_inv
    obtain ⟨b, ys, rfl, hb, hy⟩ := h2.tup_inv
    refine ⟨a, b, xs, ys, rfl, rfl, sqt e ha, sqt e hb, by rw [hx.length, hy.length]; exact sz hz, fun z => ?_, fun _ z => ?_, fun _ _ p hp => q _ _ _ (.new e hp) (.tup (.inl upd_same) ((hx.append hy).mono (same_new (e.free hp) _)))⟩
    · subst z
      have z : ds = [] := List.eq_nil_of_length_eq_zero hx.length.symm
      subst z
      exact q _ B H (.refl e) (.tup hb hy)
    · subst z
      have z : ds1 = [] := List.eq_nil_of_length_eq_zero hy.length.symm
      subst z
      rw [List.append_nil] at q
      exact q _ B H (.refl e) (.tup ha hx)) ha hb
theorem pd_catL (ha : PD X a ρ (.list ds)) (hb : PD X b ρ (.list ds1)) (hz : ds.length + ds1.length ≤ 100000) : PD X (.BinOp a .Add b pos) ρ (.list (ds ++ ds1)) :=
  pd_op op_cat (fun x y B H Q e h1 h2 q => by
    obtain ⟨a, xs, rfl, ha, hx⟩ := h1.lst_inv
    obtain ⟨b, ys, rfl, hb, hy⟩ := h2.lst_inv
    exact ⟨a, b, xs, ys, rfl, rfl, e _ _ ha, e _ _ hb, by rw [hx.length, hy.length]; exact sz hz, fun p hp => q _ _ _ (.new e hp) (.lst upd_same ((hx.append hy).mono (same_new (e.free hp) _)))⟩) ha hb
theorem pd_rep {i : Int} {k : Nat} (ha : PD X a ρ (.list ds)) (hb : PD X b ρ (.int i)) (hi : i = (k : Int)) (hk : k ≤ 1) (hz : ds.length ≤ 100) : PD X (.BinOp a .Mult b pos) ρ (.list (List.replicate k ds).flatten) :=
  pd_op op_rep (fun x y B H Q e h1 h2 q => by
    obtain ⟨a, xs, rfl, ha, hx⟩ := h1.lst_inv
    subst hi
    refine ⟨a, _, xs, rfl, h2.int_inv, e _ _ ha, by omega, by omega, ?_, fun p hp => ?_⟩
    · rw [hx.length, Int.toNat_natCast]
      exact sz (Nat.le_trans (Nat.mul_le_mul hz hk) (by decide))
    · rw [Int.toNat_natCast]
      exact q _ _ _ (.new e hp) (.lst upd_same ((hx.rep k).mono (same_new (e.free hp) _)))) ha hb
/-! ### xs.index(n) -/
theorem idx_ints {ns : List Int} {n : Int} (h : n ∈ ns) : (ns.map V.int)[ns.idxOf n]? = some (.int n) ∧ ∀ (m : Nat) (z : V), m < ns.idxOf n → (ns.map V.int)[m]? = some z → eqV z (.int n) = false := by
  have hl : ns.idxOf n < ns.length := List.idxOf_lt_length_iff.mpr h
  refine ⟨by rw [List.getElem?_map, List.getElem?_eq_getElem hl, List.getElem_idxOf] <;> rfl, fun m z hm hz => ?_⟩
  have hml : m < ns.length := by omega
  rw [List.getElem?_map, List.getElem?_eq_getElem hml] at hz
  have ez : V.int ns[m] = z := Option.some.inj hz
  subst ez
  show (ns[m] == n) = false
  have := List.not_of_lt_findIdx (p := (· == n)) (xs := ns) (i := m) hm
  simpa using this
theorem pd_index {ns : List Int} {n : Int} {o : Expr} {apos cpos : Pos} (ho : PD X o ρ (.list (ns.map .int))) (ha : PD X e ρ (.int n)) (hn : n ∈ ns) (hbase : attributeBase o "index" X.env (eval o X.env) = eval o X.env := by rfl)
    (hfew : ((backTo cpos (starEach (e :: []) X.env)).all (fun x => !x.1) && (backToKw cpos (keywordEach [] X.env)).all (fun x => x.1.isSome) && decide ((e :: ([] : List Expr)).length + ([] : List Keyword).length + (if ([] : List Keyword).isEmpty then 0 else 1) < 30)) = true := by rfl)
    (hline : (apos.endLine == cpos.line) = true := by rfl) (hs : starEach (e :: []) X.env = (false, eval e X.env) :: starEach [] X.env := by rfl) : PD X (.Call (.Attribute o "index" apos) [e] [] cpos) ρ (.int (ns.idxOf n : Nat)) :=
  pe_mono (pe_bm PySem.F.plainAttrs_list PySem.F.slot_list_index PySem.F.type_list_index mt_index ho (pa_cons ha pa_nil hs) hbase hfew hline hs) fun σ H Q ⟨H0, B, e, s, q⟩ => ⟨H0, B, e, s, fun v B1 H1 g1 h1 => by
    obtain ⟨l, xs, rfl, hl, hx⟩ := h1.lst_inv
    have ex := hx.ints
    subst ex
    refine ⟨.inl ⟨rfl, _, SqL.of (g1.sub _ _ hl)⟩, H0, B1, g1.sub, s.grow g1, fun w B2 H2 g2 h2 => ?_⟩
    obtain ⟨i1, i2⟩ := idx_ints hn
    exact ⟨l, _, w, _, _, rfl, rfl, SqL.of (g2.sub _ _ (g2.bb _ _ hl)), by rw [h2.int_inv]; rfl, flat_ints ns, i1, by rw [h2.int_inv]; exact beq_self_eq_true n, by rw [h2.int_inv]; exact i2, q _ B2 H2 (g1.trans g2) (.int _)⟩⟩
/-! ### tuples of bits: ==, t.index(line) -/
def dN (n : Nat) : PyData := .int (n : Int)
def dT (l : List Nat) : PyData := .tuple (l.map dN)
theorem dT_eqv : ∀ a b : List Nat, PyData.eqvAll (a.map dN) (b.map dN) = decide (a = b)
  | [], [] => rfl
  | [], _ :: _ => rfl
  | _ :: _, [] => rfl
  | x :: a, y :: b => by
    show (((x : Int) == (y : Int)) && PyData.eqvAll (a.map dN) (b.map dN)) = decide (x :: a = y :: b)
    rw [dT_eqv a b]
    by_cases h : x = y
    · subst h
      by_cases h2 : a = b
      · subst h2; simp
      · simp [h2]
    · have h' : ((x : Int) == (y : Int)) = false := by
        rw [beq_eq_false_iff_ne]
        omega
      rw [h', Bool.false_and]
      exact (decide_eq_false (fun z => h (List.cons.inj z).1)).symm
theorem dN_lay : ∀ l : List Nat, PyData.canLayAll0 (l.map dN) = true
  | [] => rfl
  | _ :: l => by
    show (true && PyData.canLayAll0 (l.map dN)) = true
    rw [dN_lay l] <;> rfl
theorem dN_depth : ∀ l : List Nat, PyData.depthAll (l.map dN) = 0
  | [] => rfl
  | _ :: l => by
    show max 0 (PyData.depthAll (l.map dN)) = 0
    rw [dN_depth l] <;> rfl
theorem dT_shaped (l : List Nat) : SeqAt.shaped (dT l) = true := by
  have h1 : (dT l).canLay0 = true := dN_lay l
  have h2 : (dT l).depth = 1 + 0 := by
    rw [← dN_depth l]
    first | rfl | (show PyData.depth (.tuple _) = _; simp [PyData.depth]; omega)
  unfold SeqAt.shaped
  rw [h1, h2] <;> rfl
end
end Dc
end

section
set_option maxHeartbeats 4000000
namespace Dc
open PySem PySem.Spec PyProof.Rows L2
/-! ### data of bounded depth -/
structure Sh (n : Nat) (d : PyData) : Prop where
  lay : d.canLay0 = true
  dep : d.depth ≤ n
theorem Sh.mono {n m : Nat} {d : PyData} (h : Sh n d) (k : n ≤ m) : Sh m d := ⟨h.lay, Nat.le_trans h.dep k⟩
theorem Sh.shaped {n : Nat} {d : PyData} (h : Sh n d) (k : n ≤ 64 := by decide) : SeqAt.shaped d = true := by
  unfold SeqAt.shaped
  rw [h.lay, decide_eq_true (Nat.le_trans h.dep k)] <;> rfl
theorem sh_all {n : Nat} : ∀ {ds : List PyData}, (∀ d ∈ ds, Sh n d) → PyData.canLayAll0 ds = true ∧ PyData.depthAll ds ≤ n
  | [], _ => ⟨rfl, Nat.zero_le _⟩
  | d :: ds, h => by
    have h1 := h d List.mem_cons_self
    have h2 := sh_all (ds := ds) fun x hx => h x (List.mem_cons_of_mem _ hx)
    refine ⟨?_, Nat.max_le.mpr ⟨h1.dep, h2.2⟩⟩
    show (d.canLay0 && PyData.canLayAll0 ds) = true
    rw [h1.lay, h2.1] <;> rfl
theorem sh_int {n : Nat} (i : Int) : Sh n (.int i) := ⟨rfl, Nat.zero_le _⟩
theorem sh_bool {n : Nat} (i : Bool) : Sh n (.bool i) := ⟨rfl, Nat.zero_le _⟩
theorem sh_none {n : Nat} : Sh n .none := ⟨rfl, Nat.zero_le _⟩
theorem sh_tup {n : Nat} {ds : List PyData} (h : ∀ d ∈ ds, Sh n d) : Sh (n + 1) (.tuple ds) := ⟨(sh_all h).1, by
  have e : (PyData.tuple ds).depth = PyData.depthAll ds + 1 := by simp [PyData.depth]
  rw [e]
  exact Nat.succ_le_succ (sh_all h).2⟩
theorem sh_lst {n : Nat} {ds : List PyData} (h : ∀ d ∈ ds, Sh n d) : Sh (n + 1) (.list ds) := ⟨(sh_all h).1, by
  have e : (PyData.list ds).depth = PyData.depthAll ds + 1 := by simp [PyData.depth]
  rw [e]
  exact Nat.succ_le_succ (sh_all h).2⟩
theorem sh_map {α : Type} {n : Nat} {l : List α} {f : α → PyData} (h : ∀ a, Sh n (f a)) : ∀ d ∈ l.map f, Sh n d := fun d hd => by
  obtain ⟨a, _, rfl⟩ := List.mem_map.mp hd
  exact h a
theorem sh_N {n : Nat} (k : Nat) : Sh n (dN k) := sh_int _
theorem sh_T (l : List Nat) : Sh 1 (dT l) := sh_tup (sh_map fun k => sh_N k)
theorem eqv_tabs : ∀ l m : List (List Nat), PyData.eqvAll (l.map dT) (m.map dT) = decide (l = m)
  | [], [] => rfl
  | [], _ :: _ => rfl
  | _ :: _, [] => rfl
  | x :: a, y :: b => by
    show (PyData.eqvAll (x.map dN) (y.map dN) && PyData.eqvAll (a.map dT) (b.map dT)) = decide (x :: a = y :: b)
    rw [eqv_tabs a b, dT_eqv]
    by_cases h : x = y
    · subst h
      by_cases h2 : a = b
      · subst h2; simp
      · simp [h2]
    · simp [h]
theorem eqv_nil (ds : List PyData) : PyData.eqv (.list ds) (.list []) = ds.isEmpty := by
  cases ds <;> rfl
theorem Sh.refl {n : Nat} {d : PyData} (h : Sh n d) : PyData.eqv d d = true := SeqAt.eqv_refl d h.lay
section
variable {X : Cx} {ρ : Env} {e a b c : Expr} {es : List Expr} {d d1 d2 : PyData} {ds ds1 es' : List PyData} {pos p : Pos}
/-! ### tuple(x) with its object known; t.index(line) -/
theorem call_tuple_frz : CallR X (.type "tuple") (fun xs H Q => ∃ p ys, xs = [.ref p] ∧ SqL X.K H p ys ∧ ∀ l o, H l = none → o.dict = none → o.cls = .type "tuple" → Q (.ref l) (upd H l (.frz o (.tup ys)))) := by
  intro pins s σ H xs us Q I r h
  obtain ⟨p, ys, rfl, hq, q⟩ := h
  obtain ⟨u, rfl, rx⟩ := vals1 r
  cases rx
  obtain ⟨its, r', pl, hz⟩ := I.list hq
  have hlen := r'.length
  refine call_tuple_list pl.isList (fun h' kp => ?_) (by rw [List.size_toArray, ← hlen]; exact hz)
  have I1 : Inv X pins σ H { s with heap := h' } := I.kept (t' := s.toks) kp
  have got : (h'.push { cls := .type "tuple", data := .seq its.toArray }).get? h'.objs.size = some { cls := .type "tuple", data := .seq its.toArray } := Heap.get?_push_size _ rfl
  have new : ObjOk X.prog X.w (upd H h'.objs.size (.frz { cls := .type "tuple", data := .seq its.toArray } (.tup ys))) (h'.push { cls := .type "tuple", data := .seq its.toArray }) h'.objs.size (.frz { cls := .type "tuple", data := .seq its.toArray } (.tup ys)) :=
    ⟨got, hz, its, r', IsTup.new _ _⟩
  exact ⟨.ref h'.objs.size, _, I1.laid (t' := s.toks) (fun b o e => Heap.get?_push_of_some _ e) (Nat.le_refl _) new, rfl, q _ _ (I1.hok.fresh (Nat.le_refl _)) rfl rfl⟩
theorem Same.frz {H H' : Hp} (e : Same H H') {a : Addr} {o : Obj} {u : HO} (h : H a = some (.frz o u)) : H' a = some (.frz o u) := e _ _ h
theorem beq_one {α : Type} (i j : BEq α) (hi : @LawfulBEq α i) (hj : @LawfulBEq α j) : i = j := by
  obtain ⟨f⟩ := i
  obtain ⟨g⟩ := j
  congr 1
  funext a b
  by_cases c : a = b
  · subst c
    exact (@beq_self_eq_true α ⟨f⟩ (@LawfulBEq.toReflBEq α ⟨f⟩ hi) a).trans (@beq_self_eq_true α ⟨g⟩ (@LawfulBEq.toReflBEq α ⟨g⟩ hj) a).symm
  · exact (@beq_eq_false_iff_ne α ⟨f⟩ hi a b).mpr c |>.trans ((@beq_eq_false_iff_ne α ⟨g⟩ hj a b).mpr c).symm
def rTupIdx (K : PySem.W.Frag) : V → List V → Hp → VK → Prop := fun x xs H Q => ∃ (p : Addr) (ys : List V) (y : V) (ks : List (List Nat)) (k : List Nat), x = .ref p ∧ xs = [y] ∧ SqT K H p ys ∧ DpAll K H ys (ks.map dT) ∧ Dp K H y (dT k) ∧ k ∈ ks ∧ Q (.int (ks.idxOf k : Nat)) H
theorem DpAll.get {K : PySem.W.Frag} {H : Hp} : ∀ {vs : List V} {ds : List PyData} {i : Nat} {v : V}, DpAll K H vs ds → vs[i]? = some v → ∃ d, ds[i]? = some d ∧ Dp K H v d
  | _, _, i, v, .nil, h => by simp at h
  | _, _, 0, v, .cons h k, e => ⟨_, rfl, by
      have e' := Option.some.inj e
      rw [← e']
      exact h⟩
  | _, _, i + 1, v, .cons h k, e => DpAll.get k (i := i) e
theorem mt_tupIdx (hu : X.A.units + 65 < cLine) : MtR X "tuple.index" (rTupIdx X.K) := by
  intro pins s σ H x xs v us Q I rx rxs h
  obtain ⟨p, ys, y, ks, k, rfl, rfl, hs, hds, hy, hk, q⟩ := h
  cases rx
  obtain ⟨u, rfl, ry⟩ := vals1 rxs
  obtain ⟨its, r, pl, hz⟩ := I.tuple hs
  obtain ⟨bs, rd⟩ := Dp.reads I (dT k) y u hy ry
  have len : its.length = ks.length := by
    obtain ⟨as, ra⟩ := Dp.readsAll I (ks.map dT) ys its hds r
    rw [SeqAt.ReadsAll.length _ _ _ ra, List.length_map]
  refine SeqAt.call_tuple_index (ks := ks) (k := k) (vs := its) pl ⟨len, fun j h1 h2 => ?_⟩ hk ⟨.int (ks.idxOf k : Nat), H, I.tok _, ⟨s.toks, by rw [beq_one instBEqOfDecidableEq List.instBEq inferInstance inferInstance]⟩, q⟩
  have hj : j < ys.length := by rw [r.length]; exact h1
  obtain ⟨d, hd, hdp⟩ := DpAll.get hds (List.getElem?_eq_getElem hj)
  obtain ⟨u2, hu2, ru2⟩ := r.get (List.getElem?_eq_getElem hj)
  rw [List.getElem?_eq_getElem h1] at hu2
  have eu : its[j] = u2 := Option.some.inj hu2
  rw [List.getElem?_map, List.getElem?_eq_getElem h2] at hd
  have ed : dT ks[j] = d := Option.some.inj hd
  subst ed
  obtain ⟨as, ra⟩ := Dp.reads I _ _ _ hdp ru2
  rw [eu, ← dT_eqv]
  exact SeqAt.eqAt_reads (dT ks[j]) (dT k) X.A.in1 s u2 u as bs ra rd (sh_T _).lay (sh_T _).lay (by
    have h1 := (sh_T ks[j]).dep
    have h3 : min (dT ks[j]).depth (dT k).depth ≤ 1 := Nat.le_trans (Nat.min_le_left _ _) h1
    show X.A.units + 1 + _ < cLine
    omega)
/-- x.index(e), x a tuple of tuples of numbers whose object is known -/
theorem pd_tupIndex (i : Nat) {x : Str} {px : Pos} {ks : List (List Nat)} {k : List Nat} {apos cpos : Pos} (hu : X.A.units + 65 < cLine) (ha : PD X e ρ (dT k)) (hk : k ∈ ks) (hd : ρ[i]? = some (.fdat (.tuple (ks.map dT))) := by rfl) (hN : X.N[i]? = some x := by rfl) (hv : Vis X.env.scope x := by first | exact Or.inl rfl | exact Or.inr (Or.inl rfl) | exact Or.inr (Or.inr rfl))
    (h1 : (x == ("__debug__" : Str)) = false := by decide) (h2 : (x == ("__classdict__" : Str)) = false := by decide)
    (hbase : attributeBase (.Name x px) "index" X.env (eval (.Name x px) X.env) = eval (.Name x px) X.env := by rfl)
    (hfew : ((backTo cpos (starEach (e :: []) X.env)).all (fun x => !x.1) && (backToKw cpos (keywordEach [] X.env)).all (fun x => x.1.isSome) && decide ((e :: ([] : List Expr)).length + ([] : List Keyword).length + (if ([] : List Keyword).isEmpty then 0 else 1) < 30)) = true := by rfl)
    (hline : (apos.endLine == cpos.line) = true := by rfl) (hs : starEach (e :: []) X.env = (false, eval e X.env) :: starEach [] X.env := by rfl) : PD X (.Call (.Attribute (.Name x px) "index" apos) [e] [] cpos) ρ (dN (ks.idxOf k)) := by
  refine ⟨fun pins s σ H Q I ⟨H0, B, eq, so, q⟩ => ?_⟩
  obtain ⟨v, hv1, hv2, ⟨p, o, xs, rfl, hp, ho1, ho2⟩⟩ := so.fdat hd
  refine wpAny_Call_method_late hbase hfew hline rfl (thn ((pe_var hN hv h1 h2 (pos := px)).run pins s σ H (fun w H' => w = V.ref p ∧ H' = H) I ⟨_, hv1, rfl, rfl⟩) fun u s1 ⟨w, H1, I1, r1, e1, e2⟩ => ?_)
  subst e1 e2
  obtain rfl : u = Value.ref p := r1
  obtain ⟨got, tu⟩ := I1.hok p _ (eq _ _ hp)
  have isT : s1.TypeIs (.ref p) "tuple" := ⟨o, got, ho2⟩
  refine ⟨"tuple", "tuple.index", PySem.F.plainAttrs_tuple, PySem.F.slot_tuple_index, PySem.F.type_tuple_index, isT, fun a ea => ?_, ?_⟩
  · cases ea
    exact ⟨o, got, ho1⟩
  · have hA := (pds_one ha hs).run cpos pins s1 σ H1 (fun vs H' => ∃ B', Grow B H1 B' H' ∧ DdAll B' vs [dT k]) I1 ⟨H0, B, eq, so, fun vs B' H' g h => ⟨B', g, h⟩⟩
    rw [hs] at hA ⊢
    refine Calls.callWith_builtin rfl (Calls.evalArgs_plain (thn hA fun us s2 ⟨vs, H2, I2, r2, B2, g2, h2⟩ => ?_))
    obtain ⟨y, rfl, hy⟩ := h2.one
    cases hv2 with
    | tup hr hx =>
      exact mt_tupIdx hu pins s2 σ H2 (.ref p) [y] (.ref p) us Q I2 rfl r2 ⟨p, _, y, ks, k, rfl, rfl, sqt (g2.bb.trans g2.sub) hr, ((hx.mono g2.bb).mono g2.sub).dp _, (hy.mono g2.sub).dp _, hk, q _ B2 H2 g2 (.int _)⟩
/-! ### sorted(set(x)) of ints -/
theorem pd_sortSet {ns : List Int} (ms : List Int) {p2 q2 : Pos} (hc : X.calm = true) (hm : X.mg "sorted" = none) (hm2 : X.mg "set" = none) (ha : PD X e ρ d) (hd : IsSeq d (ns.map .int)) (hz : ns.length ≤ 60) (h3 : ms.Pairwise (· < ·)) (h4 : ∀ k, k ∈ ms ↔ k ∈ ns)
    (h1 : starEach (e :: []) X.env = (false, eval e X.env) :: starEach [] X.env := by rfl) (h2 : starEach (.Call (.Name "set" p2) [e] [] q2 :: []) X.env = (false, eval (.Call (.Name "set" p2) [e] [] q2) X.env) :: starEach [] X.env := by rfl) (hg : Gl X "sorted" := by rfl) (hg2 : Gl X "set" := by rfl) :
    PD X (.Call (.Name "sorted" p) [.Call (.Name "set" p2) [e] [] q2] [] pos) ρ (.list (ms.map .int)) :=
  pe_mono (pe_callB (cr_sortedSet hc) hg hm PyProof.Rows.boot_sorted (pa_cons (pe_callTy (cr_setI hc) hg2 hm2 PyProof.Rows.boot_set (pds_one ha h1) (by decide) (by decide) h1) pa_nil h2) (by decide) (by decide) h2) fun σ H Q ⟨H0, B, e, s, q⟩ => ⟨H0, B, e, s, fun vs B1 H1 g1 h => by
    obtain ⟨v, rfl, h'⟩ := h.one
    obtain ⟨p, xs, rfl, hx, hdd⟩ := h'.seq (K := X.K) g1.sub hd
    have ex := hdd.ints
    subst ex
    refine ⟨p, ns, rfl, hx, hz, fun t c ht hc => ?_⟩
    have g2 : Grow B1 H1 B1 (upd H1 t (SetO X.w t (fun j => decide (j ∈ ns)) c)) := .aside g1.sub ht
    refine ⟨t, _, c, rfl, upd_same, by omega, fun ns' p' hs' hm' hl' hp' => ?_⟩
    have en : ns' = ms := asc_uniq hs' h3 fun x => by rw [hm', h4]; exact decide_eq_true_iff
    subst en
    exact q _ _ _ ((g1.trans g2).trans (.new g2.sub hp')) (.lst upd_same (.ofInts ns'))⟩
/-! ### what is walked -/
def ItD (B : Hp) (J : It) (ds : List PyData) : Prop :=
  (∀ i H, Same B H → i < ds.length → J.go i H) ∧ (∀ H, Same B H → J.stop ds.length H) ∧
  ∀ i B' H x H' d, Same B B' → Same B' H → J.yld i H x H' → ds[i]? = some d → ∃ B'', Grow B' H B'' H' ∧ Dd B'' x d
def tDI (ρ : Env) (ds : List PyData) : TI := fun σ H R => ∃ H0 B, Same B H ∧ Sok H0 B H σ ρ ∧ ∀ J B' H', Grow B H B' H' → ItD B' J ds → R J H'
abbrev PID (X : Cx) (tg e : Expr) (ρ : Env) (ds : List PyData) : Prop := PI X tg e (tDI ρ ds)
variable {tg : Expr}
theorem itd_list {K : PySem.W.Frag} {B : Hp} {a : Addr} {xs : List V} (h : B a = some (.lst xs)) (hd : DdAll B xs ds) (hinj : ∀ {H ys}, H a = some (.lst xs) → SqL K H a ys → True) : ItD B (Itl K a) ds := by
  refine ⟨fun i H e hi => ?_, fun H e => ⟨xs, SqL.of (e _ _ h), Nat.le_of_eq hd.length⟩, fun i B' H x H' d e1 e2 ⟨e3, hx⟩ hdi => ?_⟩
  · obtain ⟨v, hv, _⟩ := hd.get (List.getElem?_eq_getElem hi)
    exact ⟨xs, v, SqL.of (e _ _ h), hv⟩
  · subst e3
    obtain ⟨v, hv, hvd⟩ := hd.get hdi
    have ex := hx xs (SqL.of (e2 _ _ (e1 _ _ h)))
    rw [hv] at ex
    have ev := Option.some.inj ex
    subst ev
    exact ⟨B', .refl e2, hvd.mono e1⟩
theorem pid_list (hl : PD X e ρ (.list ds)) : PID X tg e ρ ds :=
  pi_mono (pi_list hl) fun σ H R ⟨H0, B, e, s, q⟩ => ⟨H0, B, e, s, fun v B1 H1 g1 h1 => by
    obtain ⟨a, xs, rfl, ha, hx⟩ := h1.lst_inv
    exact ⟨a, rfl, ⟨xs, SqL.of (g1.sub _ _ ha)⟩, q _ B1 H1 g1 (itd_list ha hx fun _ _ => trivial)⟩⟩
theorem pid_tup (hl : PD X e ρ (.tuple ds)) : PID X tg e ρ ds :=
  pi_mono (pi_tup hl) fun σ H R ⟨H0, B, e, s, q⟩ => ⟨H0, B, e, s, fun v B1 H1 g1 h1 => by
    obtain ⟨a, xs, rfl, ha, hx⟩ := h1.tup_inv
    refine ⟨a, rfl, ⟨xs, sqt g1.sub ha⟩, q _ B1 H1 g1 ⟨fun i H e hi => ?_, fun H e => ⟨xs, sqt e ha, Nat.le_of_eq hx.length⟩, fun i B' H x H' d e1 e2 ⟨e3, hx'⟩ hdi => ?_⟩⟩
    · obtain ⟨v, hv, _⟩ := hx.get (List.getElem?_eq_getElem hi)
      exact ⟨xs, v, sqt e ha, hv⟩
    · subst e3
      obtain ⟨v, hv, hvd⟩ := hx.get hdi
      have ex := hx' xs (sqt (e1.trans e2) ha)
      rw [hv] at ex
      have ev := Option.some.inj ex
      subst ev
      exact ⟨B', .refl e2, hvd.mono e1⟩⟩
theorem itd_ints {J : It} {B : Hp} {n : Nat} {f : Nat → Int} (h1 : ∀ i H, i < n → J.go i H) (h2 : ∀ H, J.stop n H) (h3 : ∀ i H x H', i < n → J.yld i H x H' → H' = H ∧ x = .int (f i)) : ItD B J ((List.range n).map fun i => .int (f i)) := by
  have hl : ((List.range n).map fun i => PyData.int (f i)).length = n := by rw [List.length_map, List.length_range]
  refine ⟨fun i H _ hi => h1 i H (by omega), fun H _ => by rw [hl]; exact h2 H, fun i B' H x H' d e1 e2 y hd => ?_⟩
  have hi : i < n := by
    have := (List.getElem?_eq_some_iff.mp hd).1
    omega
  obtain ⟨rfl, rfl⟩ := h3 i H x H' hi y
  rw [List.getElem?_map, List.getElem?_range hi] at hd
  have ed : PyData.int (f i) = d := Option.some.inj hd
  subst ed
  exact ⟨B', .refl e2, .int _⟩
theorem DdAll.int1 {B : Hp} {vs : List V} {i : Int} (h : DdAll B vs [.int i]) : vs = [.int i] := by
  obtain ⟨v, rfl, h'⟩ := h.one
  rw [h'.int_inv]
theorem DdAll.int2 {B : Hp} {vs : List V} {i j : Int} (h : DdAll B vs [.int i, .int j]) : vs = [.int i, .int j] := by
  obtain ⟨v, w, rfl, h1, h2⟩ := h.two
  rw [h1.int_inv, h2.int_inv]
theorem DdAll.int3 {B : Hp} {vs : List V} {i j k : Int} (h : DdAll B vs [.int i, .int j, .int k]) : vs = [.int i, .int j, .int k] := by
  cases h with
  | cons h1 h2 =>
    obtain ⟨v, w, rfl, h3, h4⟩ := h2.two
    rw [h1.int_inv, h3.int_inv, h4.int_inv]
theorem pid_range1 {n : Nat} {p : Pos} (hm : X.mg "range" = none) (ha : PD X a ρ (.int n)) (hn : n ≤ 100000) (hg : Gl X "range" := by rfl) (hs : starEach [a] X.env = [(false, eval a X.env)] := by rfl) : PID X tg (.Call (.Name "range" p) [a] [] pos) ρ ((List.range n).map dN) :=
  pi_mono (pi_range1 hg hm (pds_one ha hs) hs) fun σ H R ⟨H0, B, e, s, q⟩ => ⟨H0, B, e, s, fun vs B1 H1 g1 h1 => ⟨n, h1.int1, by omega, by omega, by
    rw [Int.toNat_natCast]
    exact q _ B1 H1 g1 (itd_ints (fun i H hi => hi) (fun H => Nat.le_refl n) fun i H x H' hi ⟨z1, z2⟩ => ⟨z1, by rw [z2, Int.zero_add]⟩)⟩⟩
theorem pid_range2 {lo n : Nat} {j : Int} {p : Pos} (hm : X.mg "range" = none) (ha : PD X a ρ (.int lo)) (hb : PD X b ρ (.int j)) (hj : j = ((lo + n : Nat) : Int)) (hn : lo + n ≤ 100000) (hg : Gl X "range" := by rfl) (hs : starEach [a, b] X.env = [(false, eval a X.env), (false, eval b X.env)] := by rfl) (hs2 : starEach [b] X.env = [(false, eval b X.env)] := by rfl) :
    PID X tg (.Call (.Name "range" p) [a, b] [] pos) ρ ((List.range n).map fun k => dN (lo + k)) :=
  pi_mono (pi_range2 hg hm (pds_cons ha (pds_one hb hs2) (by rw [hs, hs2])) hs hs2) fun σ H R ⟨H0, B, e, s, q⟩ => ⟨H0, B, e, s, fun vs B1 H1 g1 h1 => ⟨lo, j, h1.int2, by subst hj; omega, by
    subst hj
    rw [show (((lo + n : Nat) : Int) - (lo : Int)).toNat = n by omega]
    exact q _ B1 H1 g1 (itd_ints (fun i H hi => hi) (fun H => Nat.le_refl n) fun i H x H' hi ⟨z1, z2⟩ => ⟨z1, by rw [z2]; rfl⟩)⟩⟩
/-- range(n - 1, -1, -1) -/
theorem pid_rangeDown {n : Nat} {j k i : Int} {p : Pos} (hm : X.mg "range" = none) (ha : PD X a ρ (.int i)) (hb : PD X b ρ (.int j)) (hc : PD X c ρ (.int k)) (hi : i = (n : Int) - 1) (hj : j = -1) (hk : k = -1) (hn : n ≤ 100000) (hg : Gl X "range" := by rfl)
    (hs : starEach [a, b, c] X.env = [(false, eval a X.env), (false, eval b X.env), (false, eval c X.env)] := by rfl) (hs2 : starEach [b, c] X.env = [(false, eval b X.env), (false, eval c X.env)] := by rfl) (hs3 : starEach [c] X.env = [(false, eval c X.env)] := by rfl) :
    PID X tg (.Call (.Name "range" p) [a, b, c] [] pos) ρ ((List.range n).map fun m => dN (n - 1 - m)) := by
  subst hi hj hk
  refine pi_mono (pi_range3 hg hm (pds_cons ha (pds_cons hb (pds_one hc hs3) (by rw [hs2, hs3])) (by rw [hs, hs2])) (by rw [hs, hs2]) (by rw [hs2]; rfl)) fun σ H R ⟨H0, B, e, s, q⟩ => ⟨H0, B, e, s, fun vs B1 H1 g1 h1 => ⟨(n : Int) - 1, -1, -1, ((n : Int) - 1 - -1).toNat, h1.int3, RgC.neg (by omega) (by omega) (by omega) (by omega), ?_⟩⟩
  have en : ((n : Int) - 1 - -1).toNat = n := by omega
  rw [en]
  have hf : ((List.range n).map fun m => dN (n - 1 - m)) = (List.range n).map fun m => PyData.int ((n : Int) - 1 + (m : Nat) * -1) := List.map_congr_left fun m hm => by
    have := List.mem_range.mp hm
    show PyData.int _ = _
    congr 1
    omega
  rw [hf] at q
  exact q _ B1 H1 g1 (itd_ints (fun i H hi => hi) (fun H => Nat.le_refl n) fun i H x H' hi ⟨z1, z2⟩ => ⟨z1, z2⟩)
end
end Dc
end

section
set_option maxHeartbeats 4000000
namespace Dc
open PySem PySem.Spec PyProof.Rows L2
section
variable {B H B' H' H0 : Hp} {D : Addr} {o : HO}
theorem Grow.mut (g : Grow B H B' H') (h1 : H D = none) (hB : B' D = none) : Grow B H B' (upd H' D o) :=
  ⟨fun b u e => by rw [upd_ne (ne_of_none e h1)]; exact g.ext b u e, g.bb, fun b u e => by rw [upd_ne (ne_of_none e hB)]; exact g.sub b u e, g.sep⟩
theorem Grow.adopt (g : Grow B H B' H') (h1 : H D = none) (hB : B' D = none) (hH : H' D = some o) : Grow B H (upd B' D o) H' := by
  refine ⟨g.ext, fun b u e => ?_, fun b u e => ?_, fun a h2 h3 => ?_⟩
  · have e' := g.bb b u e
    rw [upd_ne (ne_of_none e' hB)]
    exact e'
  · by_cases c : b = D
    · subst c
      rw [upd_same] at e
      rw [hH]
      exact e
    · rw [upd_ne c] at e
      exact g.sub b u e
  · have ne : a ≠ D := fun z => by
      rw [z] at h2
      exact h2 h1
    rw [upd_ne ne]
    exact g.sep a h2 h3
theorem sep_of (g : Grow B H B' H') {xs : HO} (h : H D = some xs) (hB : B D = none) : B' D = none := g.sep D (by rw [h]; exact fun z => nomatch z) hB
variable {σ : L2.St} {ρ : Env}
theorem Sok.setDat (x : Sok H0 B H σ ρ) {j : Nat} {v : V} {d : PyData} (h : Dd B v d) (hj : j < ρ.length) : Sok H0 B H (σ.set j (some v)) (ρ.set j (.dat d)) := by
  have hσ : j < σ.length := by rw [x.len]; exact hj
  refine ⟨by rw [List.length_set, List.length_set]; exact x.len, fun i s hs => ?_, fun i k s t l hne hs ht os ot h1 => ?_⟩
  · by_cases c : i = j
    · subst c
      rw [List.getElem?_set_self hj] at hs
      have es := Option.some.inj hs
      subst es
      exact ⟨v, List.getElem?_set_self hσ, h⟩
    · rw [List.getElem?_set_ne (Ne.symm c)] at hs ⊢
      exact x.slot i s hs
  · have ci : i ≠ j := fun c => by
      subst c
      rw [List.getElem?_set_self hj] at hs
      have es := Option.some.inj hs
      subst es
      cases os
    have ck : k ≠ j := fun c => by
      subst c
      rw [List.getElem?_set_self hj] at ht
      have es := Option.some.inj ht
      subst es
      cases ot
    rw [List.getElem?_set_ne (Ne.symm ci)] at hs h1
    rw [List.getElem?_set_ne (Ne.symm ck)] at ht ⊢
    exact x.apart i k s t l hne hs ht os ot h1
/-- a new owned object at a slot -/
theorem Sok.setOwn (x : Sok H0 B H σ ρ) {j : Nat} {l : Addr} {s : Sl} (hl : H l = none) {o : HO} (hs : SlotOk H0 B (upd H l o) (some (some (.ref l))) s) (hB : Same B H) (hj : j < ρ.length) : Sok H0 B (upd H l o) (σ.set j (some (.ref l))) (ρ.set j s) := by
  have hσ : j < σ.length := by rw [x.len]; exact hj
  have g : Grow B H B (upd H l o) := .aside hB hl
  have far : ∀ (i : Nat) (t : Sl), ρ[i]? = some t → t.own = true → σ[i]? ≠ some (some (.ref l)) := fun i t ht ot e => by
    have q := x.slot i t ht
    cases t with
    | lst ds =>
      obtain ⟨l', xs, e', h1, _⟩ := q
      rw [e] at e'
      cases e'
      rw [hl] at h1
      cases h1
    | dic ks =>
      obtain ⟨l', e', h1, _⟩ := q
      rw [e] at e'
      cases e'
      rw [hl] at h1
      cases h1
    | _ => cases ot
  refine ⟨by rw [List.length_set, List.length_set]; exact x.len, fun i t ht => ?_, fun i k t u l' hne ht hu ot ou h1 => ?_⟩
  · by_cases c : i = j
    · subst c
      rw [List.getElem?_set_self hj] at ht
      have es := Option.some.inj ht
      subst es
      rw [List.getElem?_set_self hσ]
      exact hs
    · rw [List.getElem?_set_ne (Ne.symm c)] at ht ⊢
      exact (x.slot i t ht).grow g
  · by_cases ci : i = j
    · subst ci
      have ck : k ≠ i := Ne.symm hne
      rw [List.getElem?_set_self hσ] at h1
      rw [List.getElem?_set_ne (Ne.symm ck)] at hu ⊢
      cases h1
      exact far k u hu ou
    · rw [List.getElem?_set_ne (Ne.symm ci)] at ht h1
      by_cases ck : k = j
      · subst ck
        rw [List.getElem?_set_self hσ]
        intro z
        cases z
        exact far i t ht ot h1
      · rw [List.getElem?_set_ne (Ne.symm ck)] at hu ⊢
        exact x.apart i k t u l' hne ht hu ot ou h1
/-- an owned object is changed -/
theorem Sok.mutate (x : Sok H0 B H σ ρ) {j : Nat} {l : Addr} {s s' : Sl} {o : HO} (hj : ρ[j]? = some s) (ho : s.own = true) (hl : σ[j]? = some (some (.ref l))) (ho' : s'.own = true) (hs : SlotOk H0 B (upd H l o) (some (some (.ref l))) s') : Sok H0 B (upd H l o) σ (ρ.set j s') := by
  have hlt : j < ρ.length := (List.getElem?_eq_some_iff.mp hj).1
  refine ⟨by rw [List.length_set]; exact x.len, fun i t ht => ?_, fun i k t u l' hne ht hu ot ou h1 => ?_⟩
  · by_cases c : i = j
    · subst c
      rw [List.getElem?_set_self hlt] at ht
      have es := Option.some.inj ht
      subst es
      rw [hl]
      exact hs
    · rw [List.getElem?_set_ne (Ne.symm c)] at ht
      have q := x.slot i t ht
      cases t with
      | lst ds =>
        obtain ⟨l', xs, e', h1, h2, h3, h4⟩ := q
        have ne : l' ≠ l := fun z => by
          subst z
          exact x.apart j i s _ l' (Ne.symm c) hj ht ho rfl hl e'
        exact ⟨l', xs, e', by rw [upd_ne ne]; exact h1, h2, h3, h4⟩
      | dic ks =>
        obtain ⟨l', e', h1, h2, h3⟩ := q
        have ne : l' ≠ l := fun z => by
          subst z
          exact x.apart j i s _ l' (Ne.symm c) hj ht ho rfl hl e'
        exact ⟨l', e', by rw [upd_ne ne]; exact h1, h2, h3⟩
      | no => trivial
      | dat d => exact q
      | fdat d => exact q
      | raw v => exact q
  · have back : ∀ (i : Nat) (t : Sl), (ρ.set j s')[i]? = some t → t.own = true → ∃ t', ρ[i]? = some t' ∧ t'.own = true := fun i t ht ot => by
      by_cases c : i = j
      · subst c
        exact ⟨s, hj, ho⟩
      · rw [List.getElem?_set_ne (Ne.symm c)] at ht
        exact ⟨t, ht, ot⟩
    obtain ⟨t', ht', ot'⟩ := back i t ht ot
    obtain ⟨u', hu', ou'⟩ := back k u hu ou
    exact x.apart i k t' u' l' hne ht' hu' ot' ou' h1
end
section
variable {X : Cx} {ρ ρ' ρ1 ρ2 : Env} {e a b c : Expr} {es : List Expr} {d d1 d2 : PyData} {ds ds1 es' : List PyData} {pos p : Pos}
/-! ### comprehensions -/
theorem ptsd_nil : PTs X [] (tDT ρ true) := ⟨fun pins s σ H Q I ⟨H0, B, e, so, q⟩ => (pts_nil (X := X)).run pins s σ H Q I (q B H (.refl e))⟩
theorem ptsd_one {k : Bool} (h : PTD X c ρ k) : PTs X [c] (tDT ρ k) := pts_one h
theorem take_filter {α β : Type} {l : List α} {f : α → Bool} {g : α → β} {i : Nat} {a : α} (h : l[i]? = some a) : ((l.take (i + 1)).filter f).map g = ((l.take i).filter f).map g ++ (if f a = true then [g a] else []) := by
  rw [List.take_add_one, h, List.filter_append, List.map_append]
  show _ ++ ([a].filter f).map g = _
  by_cases c : f a = true
  · rw [if_pos c, List.filter_cons, if_pos c] <;> rfl
  · rw [if_neg c, List.filter_cons, if_neg c] <;> rfl
theorem wipe_one (σ : L2.St) (j : Nat) : wipe σ [j] = σ.set j none := rfl
/-- the reading of a comprehension over data -/
theorem tlc {α : Type} {l : List α} {enc : α → PyData} {f : α → Bool} {g : α → PyData} {j : Nat} (hds : ds = l.map enc) (hj : j < ρ.length) (hz : l.length < 100000) : ∀ σ H Q, tD ρ (.list ((l.filter f).map g)) σ H Q →
    tLc (tDI ρ ds) (gName j) (fun σ H Q => ∃ a : {a // a ∈ l}, tDT (ρ.set j (.dat (enc a.1))) (f a.1) σ H Q) (fun σ H Q => ∃ a : {a // a ∈ l ∧ f a = true}, tD (ρ.set j (.dat (enc a.1))) (g a.1) σ H Q) [j] σ H Q := fun σ H Q ⟨H0, B, e, so, q⟩ => by
  refine ⟨H0, B, e, so, fun J B1 H1 g1 hJ D hD => ?_⟩
  subst hds
  have hB1 : B1 D = none := g1.sub.free hD
  refine ⟨fun i m H' => ∃ B', i + m = l.length ∧ Grow B1 H1 B' H' ∧ B' D = none ∧ ∃ acc, H' D = some (.lst acc) ∧ DdAll B' acc (((l.take i).filter f).map g), ⟨l.length, B1, by omega, .aside g1.sub hD, hB1, [], upd_same, .nil⟩, fun i m H' ⟨B', em, g2, hBD, acc, hacc, hdd⟩ => ?_⟩
  by_cases hi : i < l.length
  · refine .inr ⟨hJ.1 i H' (g2.bb.trans g2.sub) (by rw [List.length_map]; exact hi), fun H'' => ∃ B', (i + 1) + (m - 1) = l.length ∧ Grow B1 H1 B' H'' ∧ B' D = none ∧ ∃ acc, H'' D = some (.lst acc) ∧ DdAll B' acc (((l.take (i + 1)).filter f).map g), fun H'' h => ⟨m - 1, by omega, h⟩, fun x H2 hy => ?_⟩
    have ha : l[i]? = some l[i] := List.getElem?_eq_getElem hi
    obtain ⟨B2, g3, hx⟩ := hJ.2.2 i B' H' x H2 (enc l[i]) g2.bb g2.sub hy (by rw [List.getElem?_map, ha] <;> rfl)
    have e2 : (wipe σ [j]).set j (some x) = σ.set j (some x) := by rw [wipe_one, List.set_set]
    show wipe ((wipe σ [j]).set j (some x)) [j] = wipe σ [j] ∧ _
    rw [e2]
    refine ⟨by rw [wipe_one, wipe_one, List.set_set], ⟨l[i], List.getElem_mem hi⟩, H0, B2, g3.sub, (((so.grow g1).grow g2).grow g3).setDat hx hj, fun B3 H3 g4 => ?_⟩
    have s3 := ((((so.grow g1).grow g2).grow g3).setDat hx hj).grow g4
    have out := take_filter (f := f) (g := g) ha
    show (if f l[i] = true then _ else _)
    cases c : f l[i] with
    | true =>
      rw [if_pos rfl]
      rw [c, if_pos rfl] at out
      refine ⟨⟨l[i], List.getElem_mem hi, c⟩, H0, B3, g4.sub, s3, fun y B4 H4 g5 hy => ⟨acc, (g3.trans (g4.trans g5)).ext _ _ hacc, ?_, ?_⟩⟩
      · rw [hdd.length, List.length_map]
        exact szl (Nat.lt_of_le_of_lt (Nat.le_trans (List.length_filter_le _ _) (by rw [List.length_take]; omega)) hz)
      · have hB4 : B4 D = none := sep_of (g3.trans (g4.trans g5)) hacc hBD
        refine ⟨B4, by omega, (g2.trans (g3.trans (g4.trans g5))).mut hD hB4, hB4, acc ++ [y], upd_same, ?_⟩
        rw [out]
        exact (hdd.mono (g3.trans (g4.trans g5)).bb).append (.cons hy .nil)
    | false =>
      rw [if_neg Bool.false_ne_true]
      rw [c, if_neg Bool.false_ne_true, List.append_nil] at out
      refine ⟨B3, by omega, g2.trans (g3.trans g4), sep_of (g3.trans g4) hacc hBD, acc, (g3.trans g4).ext _ _ hacc, ?_⟩
      rw [out]
      exact hdd.mono (g3.trans g4).bb
  · have ei : i = l.length := by omega
    refine .inl ⟨?_, ?_⟩
    · have := hJ.2.1 H' (g2.bb.trans g2.sub)
      rw [List.length_map] at this
      rw [ei]
      exact this
    · rw [ei, List.take_length] at hdd
      exact q _ _ _ (g1.trans (g2.adopt hD hBD hacc)) (.lst upd_same (hdd.mono (fun b u e => by rw [upd_ne (ne_of_none e hBD)]; exact e)))
theorem pd_lc {α : Type} (l : List α) (enc : α → PyData) (f : α → Bool) (g : α → PyData) (j : Nat) {x : Str} {px : Pos} {elt iter : Expr} {ifs : List Expr} {scope : Scope} (hc : X.calm = true) (hN : X.N.Nodup) (hi : PID X (.Name x px) iter ρ ds) (hds : ds = l.map enc) (ok : BlkOk X.N X.env.scope scope [(x, j)])
    (hg : ∀ (s : Shared) (H : Hp) (C : Addr) (cl : List (Str × Addr)) (fp : List Addr), PG (X.blk s H scope (compEnvC scope cl C X.env) fp) (.Name x px) (gName j))
    (ht : ∀ a ∈ l, ∀ (s : Shared) (H : Hp) (C : Addr) (cl : List (Str × Addr)) (fp : List Addr), PTs (X.blk s H scope (compEnvC scope cl C X.env) fp) ifs (tDT (ρ.set j (.dat (enc a))) (f a)))
    (he : ∀ a ∈ l, f a = true → ∀ (s : Shared) (H : Hp) (C : Addr) (cl : List (Str × Addr)) (fp : List Addr), PD (X.blk s H scope (compEnvC scope cl C X.env) fp) elt (ρ.set j (.dat (enc a))) (g a))
    (hj : j < ρ.length := by exact Nat.le_of_ble_eq_true rfl) (hz : l.length < 100000 := by omega) (hs : ∀ x, foldedSetIterable iter X.env x = pure x := by intro _; rfl) : PD X (.ListComp elt [⟨.Name x px, iter, ifs, 0⟩] scope pos) ρ (.list ((l.filter f).map g)) :=
  pe_mono (pe_lc (own := [(x, j)]) hc hN hi ok hg (fun s H C cl fp => pts_ex fun a => ht a.1 a.2 s H C cl fp) (fun s H C cl fp => pe_ex fun a => he a.1 a.2.1 a.2.2 s H C cl fp) hs) (tlc hds hj hz)
/-- without a test -/
theorem pd_lcAll {α : Type} (l : List α) (enc : α → PyData) (g : α → PyData) (j : Nat) {x : Str} {px : Pos} {elt iter : Expr} {scope : Scope} (hc : X.calm = true) (hN : X.N.Nodup) (hi : PID X (.Name x px) iter ρ ds) (hds : ds = l.map enc) (ok : BlkOk X.N X.env.scope scope [(x, j)])
    (hg : ∀ (s : Shared) (H : Hp) (C : Addr) (cl : List (Str × Addr)) (fp : List Addr), PG (X.blk s H scope (compEnvC scope cl C X.env) fp) (.Name x px) (gName j))
    (he : ∀ a ∈ l, ∀ (s : Shared) (H : Hp) (C : Addr) (cl : List (Str × Addr)) (fp : List Addr), PD (X.blk s H scope (compEnvC scope cl C X.env) fp) elt (ρ.set j (.dat (enc a))) (g a))
    (hj : j < ρ.length := by exact Nat.le_of_ble_eq_true rfl) (hz : l.length < 100000 := by omega) (hs : ∀ x, foldedSetIterable iter X.env x = pure x := by intro _; rfl) : PD X (.ListComp elt [⟨.Name x px, iter, [], 0⟩] scope pos) ρ (.list (l.map g)) :=
  (pd_lc l enc (fun _ => true) g j hc hN hi hds ok hg (fun _ _ _ _ _ _ _ => ptsd_nil) (fun a ha _ => he a ha) hj hz hs).is (by rw [List.filter_eq_self.mpr fun _ _ => rfl])
/-! ### statements -/
def tN (ρ ρ' : Env) : TS := fun D σ H => ∃ B0 H0 B, Grow B0 H0 B H ∧ Sok H0 B H σ ρ ∧ ∀ σ' B' H', Grow B0 H0 B' H' → Same B B' → Sok H0 B' H' σ' ρ' → D.nx σ' H'
def tR (ρ : Env) (d : PyData) : TS := fun D σ H => ∃ B0 H0 B, Grow B0 H0 B H ∧ Sok H0 B H σ ρ ∧ ∀ v B' H', Grow B0 H0 B' H' → Dd B' v d → D.rt v H'
abbrev SN1 (X : Cx) (s : Stmt) (ρ ρ' : Env) : Prop := PS X s (tN ρ ρ')
abbrev SN (X : Cx) (s : List Stmt) (ρ ρ' : Env) : Prop := PSs X s (tN ρ ρ')
abbrev SR1 (X : Cx) (s : Stmt) (ρ : Env) (d : PyData) : Prop := PS X s (tR ρ d)
abbrev SR (X : Cx) (s : List Stmt) (ρ : Env) (d : PyData) : Prop := PSs X s (tR ρ d)
variable {s : Stmt} {r : List Stmt}
theorem sn_nil : SN X [] ρ ρ := pss_mono pss_nil fun D σ H ⟨B0, H0, B, g, so, k⟩ => k σ B H g (.refl B) so
theorem sn_cons (h1 : SN1 X s ρ ρ1) (h2 : SN X r ρ1 ρ2) : SN X (s :: r) ρ ρ2 := pss_mono (pss_cons h1 h2) fun D σ H ⟨B0, H0, B, g, so, k⟩ => ⟨B0, H0, B, g, so, fun σ' B' H' g' e' so' => ⟨B0, H0, B', g', so', fun σ2 B2 H2 g2 e2 so2 => k σ2 B2 H2 g2 (e'.trans e2) so2⟩⟩
theorem sn_one (h1 : SN1 X s ρ ρ1) : SN X [s] ρ ρ1 := pss_one h1
theorem sr_cons (h1 : SN1 X s ρ ρ1) (h2 : SR X r ρ1 d) : SR X (s :: r) ρ d := pss_mono (pss_cons h1 h2) fun D σ H ⟨B0, H0, B, g, so, k⟩ => ⟨B0, H0, B, g, so, fun σ' B' H' g' e' so' => ⟨B0, H0, B', g', so', k⟩⟩
theorem sr_last (h : SR1 X s ρ d) : SR X [s] ρ d := pss_one h
theorem sr_ret (h : PD X e ρ d) : SR1 X (.Return (some e) pos) ρ d := ps_mono (ps_ret h) fun D σ H ⟨B0, H0, B, g, so, k⟩ => ⟨H0, B, g.sub, so, fun v B' H' g' h' => k v B' H' (g.trans g') h'⟩
theorem SR.is {d' : PyData} (h : SR X r ρ d) (q : d = d') : SR X r ρ d' := q ▸ h
/-- return found -/
theorem sr_retOwn (i : Nat) {x : Str} {px : Pos} (hi : ρ[i]? = some (.lst ds) := by rfl) (hN : X.N[i]? = some x := by rfl) (hv : Vis X.env.scope x := by first | exact Or.inl rfl | exact Or.inr (Or.inl rfl) | exact Or.inr (Or.inr rfl)) (h1 : (x == ("__debug__" : Str)) = false := by decide) (h2 : (x == ("__classdict__" : Str)) = false := by decide) :
    SR1 X (.Return (some (.Name x px)) pos) ρ (.list ds) := ps_mono (ps_ret (pe_var hN hv h1 h2)) fun D σ H ⟨B0, H0, B, g, so, k⟩ => by
  obtain ⟨l, xs, q1, q2, q3, q4, q5⟩ := so.lst hi
  exact ⟨_, q1, k _ _ _ (g.adopt q3 q4 q2) (.lst upd_same (q5.mono fun b u e => by rw [upd_ne (ne_of_none e q4)]; exact e))⟩
theorem sn_expr (h : PD X e ρ d) (hs : swapsWith e none pos.line X.env = pure false := by rfl) : SN1 X (.Expr e pos) ρ ρ := ps_mono (ps_expr h hs) fun D σ H ⟨B0, H0, B, g, so, k⟩ => ⟨H0, B, g.sub, so, fun v B' H' g' _ => k σ B' H' (g.trans g') g'.bb (so.grow g')⟩
theorem sn_set (j : Nat) {x : Str} {px : Pos} (hN : X.N.Nodup) (h : PD X e ρ d) (hj : j < ρ.length := by exact Nat.le_of_ble_eq_true rfl) (hi : X.N[j]? = some x := by rfl) (hx : Loc X.env.scope x := by first | exact Or.inl rfl | exact Or.inr rfl) (hs : swapsWith e (some (.Name x px)) pos.line X.env = pure false := by rfl) (hf : X.fn x = true ∨ X.env.scope.names.lookup x = some .local := by first | exact .inl rfl | exact .inr rfl | assumption) :
    SN1 X (.Assign [.Name x px] e pos) ρ (ρ.set j (.dat d)) := ps_mono (ps_set hN hi hx h hs hf) fun D σ H ⟨B0, H0, B, g, so, k⟩ => ⟨H0, B, g.sub, so, fun v B' H' g' hv => k _ B' H' (g.trans g') g'.bb ((so.grow g').setDat hv hj)⟩
theorem sn_setLc {α : Type} (k : Nat) {y : Str} {py : Pos} (l : List α) (enc : α → PyData) (f : α → Bool) (g : α → PyData) (j : Nat) {x : Str} {px spos : Pos} {elt iter : Expr} {ifs : List Expr} {scope : Scope} (hc : X.calm = true) (hN : X.N.Nodup) (hi : PID X (.Name x px) iter ρ ds) (hds : ds = l.map enc) (ok : BlkOk X.N X.env.scope scope [(x, j)])
    (hg : ∀ (s : Shared) (H : Hp) (C : Addr) (cl : List (Str × Addr)) (fp : List Addr), PG (X.blk s H scope (compEnvC scope cl C X.env) fp) (.Name x px) (gName j))
    (ht : ∀ a ∈ l, ∀ (s : Shared) (H : Hp) (C : Addr) (cl : List (Str × Addr)) (fp : List Addr), PTs (X.blk s H scope (compEnvC scope cl C X.env) fp) ifs (tDT (ρ.set j (.dat (enc a))) (f a)))
    (he : ∀ a ∈ l, f a = true → ∀ (s : Shared) (H : Hp) (C : Addr) (cl : List (Str × Addr)) (fp : List Addr), PD (X.blk s H scope (compEnvC scope cl C X.env) fp) elt (ρ.set j (.dat (enc a))) (g a))
    (hj : j < ρ.length := by exact Nat.le_of_ble_eq_true rfl) (hk : k < ρ.length := by exact Nat.le_of_ble_eq_true rfl) (hz : l.length < 100000 := by omega) (hy : X.N[k]? = some y := by rfl) (hyl : X.env.scope.names.lookup y = some .local := by rfl)
    (hsw : swapsWith (.ListComp elt [⟨.Name x px, iter, ifs, 0⟩] scope pos) (some (.Name y py)) spos.line X.env = pure true := by exact sw_true rfl rfl rfl (by decide +kernel)) (hs : ∀ x, foldedSetIterable iter X.env x = pure x := by intro _; rfl) :
    SN1 X (.Assign [.Name y py] (.ListComp elt [⟨.Name x px, iter, ifs, 0⟩] scope pos) spos) ρ (ρ.set k (.dat (.list ((l.filter f).map g)))) :=
  ps_mono (ps_setLc (own := [(x, j)]) hc hN hy hyl hsw hi ok hg (fun s H C cl fp => pts_ex fun a => ht a.1 a.2 s H C cl fp) (fun s H C cl fp => pe_ex fun a => he a.1 a.2.1 a.2.2 s H C cl fp) hs) fun D σ H ⟨B0, H0, B, g', so, kk⟩ =>
    tlc hds hj hz σ H _ ⟨H0, B, g'.sub, so, fun v B' H' g2 hv => kk _ B' H' (g'.trans g2) g2.bb ((so.grow g2).setDat hv hk)⟩
/-- found = [] -/
theorem sn_setNil (j : Nat) {x : Str} {px pl : Pos} (hN : X.N.Nodup) (hj : j < ρ.length := by exact Nat.le_of_ble_eq_true rfl) (hi : X.N[j]? = some x := by rfl) (hx : Loc X.env.scope x := by first | exact Or.inl rfl | exact Or.inr rfl) (hs : swapsWith (.List [] pl) (some (.Name x px)) pos.line X.env = pure false := by rfl) (hf : X.fn x = true ∨ X.env.scope.names.lookup x = some .local := by first | exact .inl rfl | exact .inr rfl | assumption) :
    SN1 X (.Assign [.Name x px] (.List [] pl) pos) ρ (ρ.set j (.lst [])) := ps_mono (ps_set hN hi hx (pe_lst pa_nil) hs hf) fun D σ H ⟨B0, H0, B, g, so, k⟩ => ⟨Nat.zero_le _, fun l hl => by
  have hB := g.sub.free hl
  have h0 := g.ext.free hl
  exact k _ B _ (g.trans (.aside g.sub hl)) (.refl B) (so.setOwn hl ⟨l, [], rfl, upd_same, h0, hB, .nil⟩ g.sub hj)⟩
/-- found = list(x), to grow -/
theorem sn_setList (j : Nat) {x : Str} {px p2 p3 : Pos} (hm : X.mg "list" = none) (hN : X.N.Nodup) (ha : PD X e ρ d) (hd : IsSeq d ds) (hj : j < ρ.length := by exact Nat.le_of_ble_eq_true rfl) (hi : X.N[j]? = some x := by rfl) (hx : Loc X.env.scope x := by first | exact Or.inl rfl | exact Or.inr rfl) (hs : swapsWith (.Call (.Name "list" p2) [e] [] p3) (some (.Name x px)) pos.line X.env = pure false := by rfl) (hf : X.fn x = true ∨ X.env.scope.names.lookup x = some .local := by first | exact .inl rfl | exact .inr rfl | assumption)
    (h1 : starEach (e :: []) X.env = (false, eval e X.env) :: starEach [] X.env := by rfl) (hg : Gl X "list" := by rfl) : SN1 X (.Assign [.Name x px] (.Call (.Name "list" p2) [e] [] p3) pos) ρ (ρ.set j (.lst ds)) :=
  ps_mono (ps_set hN hi hx (pe_callTy call_list_of hg hm PyProof.Rows.boot_list (pds_one ha h1) (by decide) (by decide) h1) hs hf) fun D σ H ⟨B0, H0, B, g, so, k⟩ => ⟨H0, B, g.sub, so, fun vs B1 H1 g1 h => by
    obtain ⟨v, rfl, h'⟩ := h.one
    obtain ⟨q, xs, rfl, hx, hdd⟩ := h'.seq (K := X.K) g1.sub hd
    exact ⟨q, xs, rfl, hx, fun l hl => k _ B1 _ ((g.trans g1).trans (.aside g1.sub hl)) g1.bb ((so.grow g1).setOwn hl ⟨l, xs, rfl, upd_same, (g.trans g1).ext.free hl, g1.sub.free hl, hdd⟩ g1.sub hj)⟩⟩
/-- found.append(e) -/
theorem sn_append (i : Nat) {x : Str} {px apos cpos spos : Pos} (ha : PD X e ρ d) (hz : ds.length < 90000) (hi : ρ[i]? = some (.lst ds) := by rfl) (hN : X.N[i]? = some x := by rfl) (hv : Vis X.env.scope x := by first | exact Or.inl rfl | exact Or.inr (Or.inl rfl) | exact Or.inr (Or.inr rfl)) (h1 : (x == ("__debug__" : Str)) = false := by decide) (h2 : (x == ("__classdict__" : Str)) = false := by decide)
    (hbase : attributeBase (.Name x px) "append" X.env (eval (.Name x px) X.env) = eval (.Name x px) X.env := by rfl)
    (hfew : ((backTo cpos (starEach (e :: []) X.env)).all (fun x => !x.1) && (backToKw cpos (keywordEach [] X.env)).all (fun x => x.1.isSome) && decide ((e :: ([] : List Expr)).length + ([] : List Keyword).length + (if ([] : List Keyword).isEmpty then 0 else 1) < 30)) = true := by rfl)
    (hline : (apos.endLine == cpos.line) = true := by rfl) (hs : starEach (e :: []) X.env = (false, eval e X.env) :: starEach [] X.env := by rfl)
    (hsw : swapsWith (.Call (.Attribute (.Name x px) "append" apos) [e] [] cpos) none spos.line X.env = pure false := by rfl) :
    SN1 X (.Expr (.Call (.Attribute (.Name x px) "append" apos) [e] [] cpos) spos) ρ (ρ.set i (.lst (ds ++ [d]))) :=
  ps_mono (ps_expr (pe_bm PySem.F.plainAttrs_list PySem.F.slot_list_append PySem.F.type_list_append mt_append (pe_var hN hv h1 h2) (pds_one ha hs) hbase hfew hline hs) hsw) fun D σ H ⟨B0, H0, B, g, so, k⟩ => by
    obtain ⟨l, xs, q1, q2, q3, q4, q5⟩ := so.lst hi
    refine ⟨_, q1, .inl ⟨rfl, _, SqL.of q2⟩, H0, B, g.sub, so, fun vs B1 H1 g1 h => ?_⟩
    obtain ⟨v, rfl, h'⟩ := h.one
    have q2' := g1.ext _ _ q2
    have q4' := sep_of g1 q2 q4
    refine ⟨l, xs, v, rfl, rfl, q2', by rw [q5.length]; exact szl (by omega), k σ B1 _ ((g.trans g1).mut q3 q4') g1.bb ?_⟩
    exact (so.grow g1).mutate hi rfl q1 rfl ⟨l, _, rfl, upd_same, q3, q4', (q5.mono g1.bb).append (.cons h' .nil)⟩
/-! ### if, for, while -/
theorem sn_if {k : Bool} {A C : List Stmt} (hc : PTD X c ρ k) (ha : k = true → SN X A ρ ρ1) (hb : k = false → SN X C ρ ρ1) : SN1 X (.If c A C pos) ρ ρ1 :=
  ps_mono (ps_if hc (pss_if ha) (pss_if hb)) fun D σ H ⟨B0, H0, B, g, so, kk⟩ => ⟨H0, B, g.sub, so, fun B1 H1 g1 => by
    cases k with
    | true =>
      rw [if_pos rfl]
      exact ⟨rfl, B0, H0, B1, g.trans g1, so.grow g1, fun σ' B' H' g' e' so' => kk σ' B' H' g' (g1.bb.trans e') so'⟩
    | false =>
      rw [if_neg Bool.false_ne_true]
      exact ⟨rfl, B0, H0, B1, g.trans g1, so.grow g1, fun σ' B' H' g' e' so' => kk σ' B' H' g' (g1.bb.trans e') so'⟩⟩
/-- if c: return ..; the rest -/
theorem sr_when {k : Bool} {A : List Stmt} (hc : PTD X c ρ k) (ha : k = true → SR X A ρ d) (hr : k = false → SR X r ρ d) : SR X (.If c A [] pos :: r) ρ d :=
  pss_mono (pss_cons (ps_if hc (pss_if ha) pss_nil) (pss_if hr)) fun D σ H ⟨B0, H0, B, g, so, kk⟩ => ⟨H0, B, g.sub, so, fun B1 H1 g1 => by
    cases k with
    | true =>
      rw [if_pos rfl]
      exact ⟨rfl, B0, H0, B1, g.trans g1, so.grow g1, kk⟩
    | false =>
      rw [if_neg Bool.false_ne_true]
      exact ⟨rfl, B0, H0, B1, g.trans g1, so.grow g1, kk⟩⟩
/-- if c: raise ..; the rest: never raised -/
theorem sn_unless {A : List Stmt} (hc : PTD X c ρ false) : SN1 X (.If c A [] pos) ρ ρ := sn_if hc (fun z => nomatch z) fun _ => sn_nil
def tGD (ρ : Env) (d : PyData) (ρ' : Env) : TG := fun v σ H Q => ∃ H0 B, Same B H ∧ Sok H0 B H σ ρ ∧ Dd B v d ∧ ∀ σ', Sok H0 B H σ' ρ' → Q σ' H
abbrev PGD (X : Cx) (tg : Expr) (d : PyData) (ρ ρ' : Env) : Prop := PG X tg (tGD ρ d ρ')
theorem pg_mono {tg : Expr} {t t' : TG} (h : PG X tg t) (k : ∀ v σ H Q, t' v σ H Q → t v σ H Q) : PG X tg t' := ⟨fun pins s σ H v u Q I r q => h.run pins s σ H v u Q I r (k v σ H Q q)⟩
theorem pg_ex {tg : Expr} {ι : Sort _} {t : ι → TG} (h : ∀ i, PG X tg (t i)) : PG X tg (fun v σ H Q => ∃ i, t i v σ H Q) := ⟨fun pins s σ H v u Q I r ⟨i, q⟩ => (h i).run pins s σ H v u Q I r q⟩
theorem pgd_name (j : Nat) {x : Str} {px : Pos} (hN : X.N.Nodup) (hj : j < ρ.length := by exact Nat.le_of_ble_eq_true rfl) (hi : X.N[j]? = some x := by rfl) (hx : Loc X.env.scope x := by first | exact Or.inl rfl | exact Or.inr rfl) (hf : X.fn x = true ∨ X.env.scope.names.lookup x = some .local := by first | exact .inl rfl | exact .inr rfl | assumption) : PGD X (.Name x px) d ρ (ρ.set j (.dat d)) :=
  pg_mono (pg_name hN hi hx hf) fun v σ H Q ⟨H0, B, e, so, hv, q⟩ => q _ (so.setDat hv hj)
theorem pgd_two (j k : Nat) {x y : Str} {px py pt : Pos} {kt} (hc : X.calm = true) (hN : X.N.Nodup) (hj : j < ρ.length := by exact Nat.le_of_ble_eq_true rfl) (hk : k < ρ.length := by exact Nat.le_of_ble_eq_true rfl) (hi : X.N[j]? = some x := by rfl) (hi' : X.N[k]? = some y := by rfl) (hx : Loc X.env.scope x := by first | exact Or.inl rfl | exact Or.inr rfl) (hy : Loc X.env.scope y := by first | exact Or.inl rfl | exact Or.inr rfl)
    (hf : X.fn x = true ∨ X.env.scope.names.lookup x = some .local := by first | exact .inl rfl | exact .inr rfl | assumption) (hf' : X.fn y = true ∨ X.env.scope.names.lookup y = some .local := by first | exact .inl rfl | exact .inr rfl | assumption)
    (hl : (assignEach [.Name x px, .Name y py] X.env).length = 2 := by rfl) (hst : (assignEach [.Name x px, .Name y py] X.env).findIdx? (·.1) = none := by rfl)
    (h1 : (assignEach [.Name x px, .Name y py] X.env).map (·.2) = assign (.Name x px) X.env :: (assignEach [.Name y py] X.env).map (·.2) := by rfl) (h2 : (assignEach [.Name y py] X.env).map (·.2) = assign (.Name y py) X.env :: (assignEach [] X.env).map (·.2) := by rfl) :
    PGD X (.Tuple [.Name x px, .Name y py] kt pt) (.tuple [d1, d2]) ρ ((ρ.set j (.dat d1)).set k (.dat d2)) :=
  pg_mono (pg_tup hc (pgs_cons (pg_name hN hi hx hf) (pgs_cons (pg_name hN hi' hy hf') pgs_nil h2) h1) hl hst) fun v σ H Q ⟨H0, B, e, so, hv, q⟩ => by
    obtain ⟨a, xs, rfl, ha, hx⟩ := hv.tup_inv
    obtain ⟨v1, v2, rfl, k1, k2⟩ := hx.two
    exact ⟨a, _, rfl, sqt e ha, rfl, v1, [v2], rfl, v2, [], rfl, rfl, q _ ((so.setDat k1 hj).setDat k2 (by rw [List.length_set]; exact hk))⟩
/-- target = e -/
theorem sn_asg {tg : Expr} (h : PD X e ρ d) (hg : PGD X tg d ρ ρ1) (hs : swapsWithSole [tg] e pos.line X.env = pure false := by rfl) (hw : swappedStores [tg] e X.env = pure none := by rfl) (h1 : (assignEach [tg] X.env).map (·.2) = [assign tg X.env] := by rfl) : SN1 X (.Assign [tg] e pos) ρ ρ1 :=
  ps_mono (ps_asg h hg hs hw h1) fun D σ H ⟨B0, H0, B, g, so, k⟩ => ⟨H0, B, g.sub, so, fun v B' H' g' hv => ⟨H0, B', g'.sub, so.grow g', hv, fun σ' so' => k σ' B' H' (g.trans g') g'.bb so'⟩⟩
/-- a loop over data: P i, the environment ahead of turn i -/
theorem sn_for {α : Type} (l : List α) (enc : α → PyData) (P : Nat → Env) (P' : Nat → Env) {tg iter : Expr} {body : List Stmt} (hp : PassesOwn (model X.prog X.w) X.A X.env X.xe) (hc : X.calm = true) (hi : PID X tg iter ρ ds) (hds : ds = l.map enc) (h0 : P 0 = ρ)
    (hg : ∀ i a, l[i]? = some a → PGD X tg (enc a) (P i) (P' i)) (hb : ∀ i a, l[i]? = some a → SN X body (P' i) (P (i + 1))) (hs : ∀ x, foldedSetIterable iter X.env x = pure x := by intro _; rfl) : SN1 X (.For tg iter body [] pos) ρ (P l.length) :=
  ps_mono (ps_for hp hc hi (pg_ex fun a : {p : Nat × α // l[p.1]? = some p.2} => hg a.1.1 a.1.2 a.2) (pss_ex fun a : {p : Nat × α // l[p.1]? = some p.2} => hb a.1.1 a.1.2 a.2) hs) fun D σ H ⟨B0, H0, B, g, so, k⟩ => ⟨H0, B, g.sub, so, fun J B1 H1 g1 hJ => by
    subst hds h0
    refine ⟨fun i m σ' H' => ∃ B', i + m = l.length ∧ Same B1 B' ∧ Grow B0 H0 B' H' ∧ Sok H0 B' H' σ' (P i), ⟨l.length, B1, by omega, .refl B1, g.trans g1, so.grow g1⟩, fun i m σ' H' ⟨B', em, e1, g2, so2⟩ => ?_⟩
    by_cases hi : i < l.length
    · have ha : l[i]? = some l[i] := List.getElem?_eq_getElem hi
      refine .inr ⟨hJ.1 i H' (e1.trans g2.sub) (by rw [List.length_map]; exact hi), fun σ2 H2 => ∃ B', (i + 1) + (m - 1) = l.length ∧ Same B1 B' ∧ Grow B0 H0 B' H2 ∧ Sok H0 B' H2 σ2 (P (i + 1)), fun σ2 H2 h => ⟨m - 1, by omega, h⟩, fun x H2 hy => ?_⟩
      obtain ⟨B2, g3, hx⟩ := hJ.2.2 i B' H' x H2 (enc l[i]) e1 g2.sub hy (by rw [List.getElem?_map, ha] <;> rfl)
      exact ⟨⟨(i, l[i]), ha⟩, H0, B2, g3.sub, so2.grow g3, hx, fun σ3 so3 => ⟨⟨(i, l[i]), ha⟩, B0, H0, B2, g2.trans g3, so3, fun σ4 B4 H4 g4 e4 so4 => ⟨B4, by omega, (e1.trans g3.bb).trans e4, g4, so4⟩⟩⟩
    · have ei : i = l.length := by omega
      refine .inl ⟨?_, ?_⟩
      · have := hJ.2.1 H' (e1.trans g2.sub)
        rw [List.length_map] at this
        rw [ei]
        exact this
      · rw [ei] at so2
        exact k σ' B' H' g2 (g1.bb.trans e1) so2⟩
/-- a while of n turns -/
theorem sn_while (n : Nat) (P : Nat → Env) {body : List Stmt} (hp : PassesOwn (model X.prog X.w) X.A X.env X.xe) (h0 : P 0 = ρ) (hc : ∀ i, i ≤ n → PTD X c (P i) (decide (i < n))) (hb : ∀ i, i < n → SN X body (P i) (P (i + 1))) : SN1 X (.While c body [] pos) ρ (P n) :=
  ps_mono (ps_while hp (pt_ex fun a : {i : Nat // i ≤ n} => hc a.1 a.2) (pss_ex fun a : {i : Nat // i < n} => hb a.1 a.2)) fun D σ H ⟨B0, H0, B, g, so, k⟩ => by
    subst h0
    refine ⟨fun m σ' H' => ∃ B', m ≤ n ∧ Same B B' ∧ Grow B0 H0 B' H' ∧ Sok H0 B' H' σ' (P (n - m)), ⟨n, B, Nat.le_refl _, .refl B, g, by rw [Nat.sub_self]; exact so⟩, fun m σ' H' ⟨B', hm, e1, g1, so1⟩ => ⟨⟨n - m, Nat.sub_le _ _⟩, H0, B', g1.sub, so1, fun B2 H2 g2 => ?_⟩⟩
    show (if decide (n - m < n) = true then _ else _)
    by_cases c : 0 < m
    · rw [decide_eq_true (show n - m < n by omega), if_pos rfl]
      refine ⟨fun σ3 H3 => ∃ B', m - 1 ≤ n ∧ Same B B' ∧ Grow B0 H0 B' H3 ∧ Sok H0 B' H3 σ3 (P (n - (m - 1))), fun σ3 H3 h => ⟨m - 1, by omega, h⟩, ⟨n - m, by omega⟩, B0, H0, B2, g1.trans g2, so1.grow g2, fun σ4 B4 H4 g4 e4 so4 => ⟨B4, by omega, (e1.trans g2.bb).trans e4, g4, ?_⟩⟩
      rw [show n - (m - 1) = n - m + 1 by omega]
      exact so4
    · rw [decide_eq_false (show ¬ n - m < n by omega), if_neg Bool.false_ne_true]
      have em : m = 0 := by omega
      subst em
      exact k σ' B2 H2 (g1.trans g2) (e1.trans g2.bb) (so1.grow g2)
end
end Dc
end

section
set_option maxHeartbeats 4000000
namespace Dc
open PySem PySem.Spec PyProof.Rows L2
/-! ### enumerate(t), t a tuple -/
abbrev tupIt (t : Addr) : Obj := { cls := .type "tuple_iterator", data := .fields #[.ref t, .int 0 0] }
abbrev enumOf (it : Addr) : Obj := { cls := .type "enumerate", data := .fields #[.none, .bool false, .ref it, rawInt 0, .none, .none] }
theorem meets_enumT (t : Addr) (items : Array Value) : Meets (Builtin.«enumerate.__new__» ⟨[.type "enumerate", .ref t], []⟩) (fun _ R s => s.heap.IsTuple t items ∧
    R (.ok (.ret (.ref (s.heap.push (tupIt t)).objs.size))) { s with heap := (s.heap.push (tupIt t)).push (enumOf s.heap.objs.size) }) := .of_wp fun prog w A R s h => by
  obtain ⟨hp, g, d, tk, os⟩ := s
  obtain ⟨isT, out⟩ := h
  have sub := sub_enumerate
  have begin_ : ∀ {A' : Around} {E : Value → Shared → Prop} {Q : Value → Shared → Prop}, Q (.ref hp.objs.size) ⟨hp.push (tupIt t), g, d, tk, os⟩ → wpAny (model prog w) A' (pyIter (.ref t)) Q E ⟨hp, g, d, tk, os⟩ := fun q => wpAny_pyIter_tuple isT q
  wp_walk using begin_
  refine wpAny_stack_any fun st => wpAny_pure ?_
  split
  · next c b1 b2 b3 b4 b5 =>
    cases (c == Value.type "enumerate") <;> (wp_walk using begin_; exact ⟨_, rfl, out⟩)
  · wp_walk using begin_
    exact ⟨_, rfl, out⟩
theorem call_enumT {prog : Program} {w : World} {A : Around} {E : Value → Shared → Prop} {s : Shared} {t : Addr} {items : Array Value} {Q : Value → Shared → Prop} (isT : s.heap.IsTuple t items)
    (out : ∀ g, IsEnum g (s.heap.objs.size + 1) s.heap.objs.size 0 .none → g.IsTupleIter s.heap.objs.size t 0 → (∀ b o, s.heap.get? b = some o → g.get? b = some o) → Q (.ref (s.heap.objs.size + 1)) { s with heap := g }) :
    wpAny (model prog w) A (call (.type "enumerate") [.ref t]) Q E s := by
  refine callType_new F.called_enumerate (by decide) (F.typeCall_enumerate_1 _) (F.newCall_enumerate_1 _) (fun obj => F.args_object_init_2 obj _) F.entry_enumerate_new (meets_enumT t items) ⟨isT, ?_⟩
  have sz1 : (s.heap.push (tupIt t)).objs.size = s.heap.objs.size + 1 := Heap.size_push ..
  have isE : IsEnum ((s.heap.push (tupIt t)).push (enumOf s.heap.objs.size)) (s.heap.objs.size + 1) s.heap.objs.size 0 .none := by
    have q := Heap.get?_push_size (s.heap.push (tupIt t)) (o := enumOf s.heap.objs.size) rfl
    rw [sz1] at q
    exact q
  show _ ∧ _
  rw [sz1]
  exact ⟨⟨_, isE, rfl⟩, out _ isE ⟨_, Heap.get?_push_of_some _ (Heap.get?_push_size _ rfl), rfl, rfl⟩ fun b o e => Heap.get?_push_of_some _ (Heap.get?_push_of_some _ e)⟩
/-- (0, first), (1, second), ..: each a new tuple -/
def Itu (K : PySem.W.Frag) (a : Addr) : It where
  go := fun i H => ∃ xs x, SqT K H a xs ∧ xs[i]? = some x
  yld := fun i H v H' => ∃ T x, v = .ref T ∧ H T = none ∧ H' = upd H T (.tup [.int (i : Nat), x]) ∧ ∀ xs, SqT K H a xs → xs[i]? = some x
  stop := fun i H => ∃ xs, SqT K H a xs ∧ xs.length ≤ i
theorem enum_apart {h : Heap} {e it t : Addr} {c : Int} {old : Value} {i : Nat} {items : Array Value} (h1 : IsEnum h e it c old) (h2 : h.IsTupleIter it t i) (h3 : h.IsTuple t items) : t ≠ it ∧ e ≠ t := by
  obtain ⟨o, ho, hc, hd⟩ := h2
  obtain ⟨o3, ho3, hc3, _⟩ := h3
  refine ⟨fun z => ?_, fun z => ?_⟩
  · subst z
    rw [ho] at ho3
    cases ho3
    rw [hc] at hc3
    exact absurd (Value.type.inj hc3) (by decide)
  · subst z
    have h1' : h.get? e = some _ := h1
    rw [h1'] at ho3
    cases ho3
    exact absurd (Value.type.inj hc3) (by decide)
theorem turn_enumT {P : Program} {w : World} {K : PySem.W.Frag} {elts : List Expr} {kk : Nat} {tpos : Pos} (a e it : Addr) :
    Turn P w K (.Tuple elts kk tpos) (Itu K a) [e, it] e (fun i h => (∃ old, IsEnum h e it ((i : Nat) : Int) old) ∧ h.IsTupleIter it a i ∧ e ≠ it) where
  mem := List.mem_cons_self
  obj := fun i h st b hb => by
    obtain ⟨⟨old, h1⟩, ⟨o, h2, _, hd⟩, _⟩ := st
    rcases List.mem_cons.mp hb with z | z
    · subst z
      exact ⟨_, h1, fun v q => nomatch q⟩
    · exact ⟨o, by rw [List.mem_singleton.mp z]; exact h2, fun v q => by rw [hd] at q; cases q⟩
  keep := fun i h h' st k => let ⟨⟨old, h1⟩, h2, ne⟩ := st; ⟨⟨old, k e List.mem_cons_self _ h1⟩, h2.at fun o q => k it (List.mem_cons_of_mem _ List.mem_cons_self) o q, ne⟩
  item := fun X hP hw hK hc i pins s σ H E I hf ⟨⟨old, h1⟩, h2, ne⟩ ⟨xs, x, hq, hx⟩ => by
    subst hP hw hK
    obtain ⟨its, rv, pl, hz⟩ := I.tuple hq
    obtain ⟨u, hu, ru⟩ := rv.get hx
    obtain ⟨ne2, ne3⟩ := enum_apart h1 h2 pl
    have free : X.A.in1.handled = none := I.ok.hd hc
    have low1 : e < s.heap.objs.size := Heap.lt_size h1
    have low2 : it < s.heap.objs.size := by obtain ⟨_, q, _⟩ := h2; exact Heap.lt_size q
    refine wpAny_pyNext_enum_itemD (Draws.tuple free it a ne2 its.toArray) h1 ⟨h2, pl⟩ (by rw [List.size_toArray]; exact (List.getElem?_eq_some_iff.mp hu).1) ne (fun z => ?_) fun y g tk hy isO ⟨isI, _⟩ isN _ kp => ?_
    · rcases List.mem_cons.mp z with z | z
      · exact ne z
      · exact ne3 (List.mem_singleton.mp z)
    · have ey : y = u := by
        have q : its[i]? = some y := by rw [← List.getElem?_toArray]; exact hy
        rw [hu] at q
        exact (Option.some.inj q).symm
      subst ey
      refine ⟨_, rfl, wpAny_letOwnedTupleGo_enum (s := { s with heap := g, toks := tk + 1 }) isO fun g2 isE sb => ?_⟩
      have isN2 : g2.get? s.heap.objs.size = some { cls := .type "tuple", data := .seq #[.int i tk, y] } := (sb.2 _ (Nat.ne_of_gt low1)).trans isN
      have new : ObjOk X.prog X.w (upd H s.heap.objs.size (.tup [.int (i : Nat), x])) g2 s.heap.objs.size (.tup [.int (i : Nat), x]) :=
        ⟨by show 2 ≤ sizeLine; decide, [.int i tk, y], .cons ⟨_, rfl⟩ (.cons ru .nil), ⟨_, isN2, rfl, _, rfl⟩⟩
      have keep2 : ∀ b o, b ∉ [e, it] → s.heap.get? b = some o → g2.get? b = some o := fun b o hb q => by
        have b1 : b ≠ e := fun z => hb (by rw [z]; exact List.mem_cons_self)
        have b2 : b ≠ it := fun z => hb (by rw [z]; exact List.mem_cons_of_mem _ List.mem_cons_self)
        exact (sb.2 b b1).trans (kp b o b1 b2 q)
      have I1 : Inv X pins σ (upd H s.heap.objs.size (.tup [.int (i : Nat), x])) { s with heap := g2, toks := tk + 1 } := I.turnedNew keep2 hf (Nat.le_refl _) new
      refine ⟨.ref s.heap.objs.size, _, I1, rfl, ⟨_, x, rfl, I.hok.fresh (Nat.le_refl _), rfl, fun ys hy' => by rw [I.tuple_inj hy' hq]; exact hx⟩, ⟨⟨y, ?_⟩, isI.at fun o q => (sb.2 it (Ne.symm ne)).trans q, ne⟩, fun b hb => ?_⟩
      · rw [show (((i + 1 : Nat) : Int)) = (i : Int) + 1 by omega]
        exact isE
      · have lowb : b < s.heap.objs.size := by
          rcases List.mem_cons.mp hb with z | z
          · rw [z]; exact low1
          · rw [List.mem_singleton.mp z]; exact low2
        rw [upd_ne (Nat.ne_of_lt lowb)]
        exact (hf b hb).1
  done := fun X hP hw hK hc i pins s σ H E I hf ⟨⟨old, h1⟩, h2, ne⟩ ⟨xs, hq, hx⟩ => by
    subst hP hw hK
    obtain ⟨its, rv, pl, hz⟩ := I.tuple hq
    obtain ⟨ne2, ne3⟩ := enum_apart h1 h2 pl
    have free : X.A.in1.handled = none := I.ok.hd hc
    obtain ⟨f0, f1, f2, f3, f4, f5⟩ := hf it (List.mem_cons_of_mem _ List.mem_cons_self)
    have last : its.toArray[i]? = none := by rw [List.getElem?_toArray]; exact List.getElem?_eq_none (by rw [← rv.length]; exact hx)
    refine wpAny_pyNext_enum_endD (n := i) (P := fun _ _ => False) (St := fun j h => j = i ∧ h.IsTupleIter it a i ∧ h.IsTuple a its.toArray) ⟨fun j h st => ?_, fun j h h' st k => ?_, fun j s Q E hj st _ => ?_, fun s Q E st hE => ?_⟩ (fp := [it, a]) h1 ⟨rfl, h2, pl⟩ fun g eb => ⟨rfl, I.turned (t' := s.toks) (fun b o hb q => eb b o hb q) f0 f1 f3 f4 f5⟩
    · obtain ⟨_, ⟨o, ho, _⟩, _⟩ := st; exact ⟨o, ho⟩
    · exact ⟨st.1, st.2.1.at fun o q => k it List.mem_cons_self o q, st.2.2.at fun o q => k a (List.mem_cons_of_mem _ List.mem_cons_self) o q⟩
    · rw [st.1] at hj
      exact absurd hj (Nat.lt_irrefl _)
    · exact wpAny_nextOf_tuple_end free st.2.1 st.2.2 last hE
  self := fun A i s Q E ⟨⟨_, h1⟩, _⟩ h => wpAny_pyIter_enum h1 h
def iEnumT (K : PySem.W.Frag) (ta : TA) : TI := fun σ H R => ta σ H fun vs H1 => ∃ a xs, vs = [.ref a] ∧ SqT K H1 a xs ∧ R (Itu K a) H1
theorem pi_enumT {X : Cx} {e : Expr} {ta : TA} {p pos tpos : Pos} {elts : List Expr} {kk : Nat} (hg : Gl X "enumerate") (hm : X.mg "enumerate" = none) (ha : PA X [e] ta) (hs : starEach [e] X.env = [(false, eval e X.env)] := by rfl) : PI X (.Tuple elts kk tpos) (.Call (.Name "enumerate" p) [e] [] pos) (iEnumT X.K ta) := by
  refine ⟨fun pins s σ H R I h => Call_ (ld_blt I hg hm PyProof.Rows.boot_enumerate (PyProof.Rows.callWith_type1 (thn (ha.run pos pins s σ H _ I h) fun us s1 ⟨vs, H1, I1, r1, a, xs, ex, hq, q⟩ => ?_) hs rfl))⟩
  subst ex
  obtain rfl : us = [Value.ref a] := r1.ref1
  obtain ⟨its, rv, pl, hz⟩ := I1.tuple hq
  refine call_enumT pl fun g isE isI kp => wpAny_pyIter_enum isE ?_
  have I2 : Inv X pins σ H1 { s1 with heap := g } := I1.kept (t' := s1.toks) kp
  refine ⟨s1.heap.objs.size + 1, [s1.heap.objs.size + 1, s1.heap.objs.size], _, _, H1, rfl, I2, turn_enumT a (s1.heap.objs.size + 1) s1.heap.objs.size, ⟨⟨.none, isE⟩, isI, Nat.succ_ne_self _⟩, fun b hb => ?_, q⟩
  have hle : s1.heap.objs.size ≤ b := by
    rcases List.mem_cons.mp hb with z | z
    · rw [z]; exact Nat.le_succ _
    · rw [List.mem_singleton.mp z]; exact Nat.le_refl _
  exact I1.fpOk hle (I1.hok.fresh hle)
theorem pid_enumT {X : Cx} {ρ : Env} {e : Expr} {ds : List PyData} {p pos tpos : Pos} {elts : List Expr} {kk : Nat} (hm : X.mg "enumerate" = none) (ha : PD X e ρ (.tuple ds)) (hg : Gl X "enumerate" := by rfl) (hs : starEach [e] X.env = [(false, eval e X.env)] := by rfl) :
    PID X (.Tuple elts kk tpos) (.Call (.Name "enumerate" p) [e] [] pos) ρ (ds.zipIdx.map fun q => .tuple [dN q.2, q.1]) :=
  pi_mono (pi_enumT hg hm (pds_one ha hs) hs) fun σ H R ⟨H0, B, eq, s, q⟩ => ⟨H0, B, eq, s, fun vs B1 H1 g1 h1 => by
    obtain ⟨v, rfl, h'⟩ := h1.one
    obtain ⟨a, xs, rfl, ha, hx⟩ := h'.tup_inv
    refine ⟨a, xs, rfl, sqt g1.sub ha, q _ B1 H1 g1 ⟨fun i H e hi => ?_, fun H e => ⟨xs, sqt e ha, by rw [hx.length, List.length_map, List.length_zipIdx]; exact Nat.le_refl _⟩, fun i B' H x H' d e1 e2 ⟨T, y, ev, hT, eH, hy⟩ hd => ?_⟩⟩
    · rw [List.length_map, List.length_zipIdx] at hi
      obtain ⟨v, hv, _⟩ := hx.get (List.getElem?_eq_getElem hi)
      exact ⟨xs, v, sqt e ha, hv⟩
    · subst ev eH
      have hy' := hy xs (sqt (e1.trans e2) ha)
      obtain ⟨di, hdi, hvd⟩ := hx.getV hy'
      rw [List.getElem?_map, List.getElem?_zipIdx, hdi] at hd
      have ed : PyData.tuple [dN (0 + i), di] = d := Option.some.inj hd
      rw [Nat.zero_add] at ed
      subst ed
      exact ⟨_, .new e2 hT, .tup (.inl upd_same) (.cons (.int _) (.cons ((hvd.mono e1).mono (same_new (e2.free hT) _)) .nil))⟩⟩
end Dc
end

section
set_option maxHeartbeats 4000000
namespace Dc
open PySem PySem.Spec PyProof.Rows L2
/-! ### a def's promise in data -/
def spD (R : List PyData → PyData → Prop) : Sp := fun vs H Q _ => ∃ B ds d, Same B H ∧ DdAll B vs ds ∧ R ds d ∧ ∀ v B' H', Grow B H B' H' → Dd B' v d → Q v H'
/-- .. whose answer is a tuple with its object known -/
def spF (R : List PyData → PyData → Prop) : Sp := fun vs H Q _ => ∃ B ds d, Same B H ∧ DdAll B vs ds ∧ R ds d ∧ ∀ v B' H', Grow B H B' H' → Dd B' v d → Frz B' v → Q v H'
abbrev FnP (K : PySem.W.Frag) (x : Str) (st : Stmt) (f : Addr) (fd : FuncData) : Prop := FunD K x x (defArgs st) (defBody st) (defScope st) [] [] f fd
structure Has (P : Program) (w : World) (K : PySem.W.Frag) (mg : Str → Option Value) (base : Heap) (x : Str) (k : Nat) (ps : List Str) (sp : Sp) : Prop where
  ok : ∃ f fd, FnOk P w K mg base CX0 k f fd ps sp ∧ mg x = some (.ref f) ∧ PySem.W.keepIn K (.ref f) = true ∧ Binds K fd ps []
theorem Has.imp {P : Program} {w : World} {K : PySem.W.Frag} {mg : Str → Option Value} {base : Heap} {x : Str} {k : Nat} {ps : List Str} {sp sp' : Sp} (F : Has P w K mg base x k ps sp) (h : ∀ vs H Q E, sp' vs H Q E → sp vs H Q E) : Has P w K mg base x k ps sp' := by
  obtain ⟨f, fd, h1, h2, h3, h4⟩ := F.ok
  exact ⟨f, fd, h1.imp h, h2, h3, h4⟩
theorem Has.plain {P : Program} {w : World} {K : PySem.W.Frag} {mg : Str → Option Value} {base : Heap} {x : Str} {k : Nat} {ps : List Str} {R : List PyData → PyData → Prop} (F : Has P w K mg base x k ps (spF R)) : Has P w K mg base x k ps (spD R) :=
  F.imp fun vs H Q E ⟨B, ds, d, e, h, r, q⟩ => ⟨B, ds, d, e, h, r, fun v B' H' g hv _ => q v B' H' g hv⟩
theorem start_ok {B H : Hp} {N : List Str} {vs : List V} {ds : List PyData} {m : Nat} (h : DdAll B vs ds) (hN : N.length = ds.length + m) : Sok H B H (L2.start N vs) (ds.map .dat ++ List.replicate m .no) := by
  have hl := h.length
  have no_own : ∀ (i : Nat) (s : Sl), (ds.map Sl.dat ++ List.replicate m .no)[i]? = some s → s.own = false := fun i s hs => by
    rcases List.mem_append.mp (List.mem_of_getElem? hs) with z | z
    · obtain ⟨d, _, rfl⟩ := List.mem_map.mp z
      rfl
    · rw [(List.mem_replicate.mp z).2] <;> rfl
  refine ⟨?_, fun i s hs => ?_, fun i j s t l _ hs _ os _ _ => ?_⟩
  · unfold L2.start
    rw [List.length_append, List.length_append, List.length_map, List.length_map, List.length_replicate, List.length_replicate]
    omega
  · by_cases c : i < ds.length
    · rw [List.getElem?_append_left (by rw [List.length_map]; exact c), List.getElem?_map, List.getElem?_eq_getElem c] at hs
      have es : Sl.dat ds[i] = s := Option.some.inj hs
      subst es
      obtain ⟨v, hv, hd⟩ := h.get (List.getElem?_eq_getElem c)
      refine ⟨v, ?_, hd⟩
      unfold L2.start
      rw [List.getElem?_append_left (by rw [List.length_map]; omega), List.getElem?_map, hv] <;> rfl
    · rw [List.getElem?_append_right (by rw [List.length_map]; omega)] at hs
      rw [(List.mem_replicate.mp (List.mem_of_getElem? hs)).2]
      trivial
  · rw [no_own i s hs] at os
    cases os
section
variable {P : Program} {w : World} {K : PySem.W.Frag} {mg : Str → Option Value} {base : Heap} {x : Str} {st : Stmt} {f : Addr} {fd : FuncData} {N ps : List Str} {k : Nat}
/-- THE RULE of a def that returns data -/
theorem def_R (F : FnP K x st f fd) (S : FnScope N ps (defScope st)) (R : List PyData → PyData → Prop) (m : Nat) (hN : N.length = ps.length + m) (hlen : ∀ ds d, R ds d → ds.length = ps.length)
    (body : ∀ (cdv : Value) (A : Around) (outer : List PySem.Env) (s : Shared) (H : Hp) (E : XK) (ds : List PyData) (d : PyData), Room k (A.deeper (envOfC x (defScope st) s.heap.objs.size f cdv)) → R ds d →
      SR (cxOf CX0 P w K mg base N x (defScope st) f cdv A outer s H E).nox (defBody st) (ds.map .dat ++ List.replicate m .no) d) : FnOk P w K mg base CX0 (k + 1) f fd ps (spD R) := by
  refine F.ok S (fun vs H Q E ⟨B, ds, d, e, h, r, q⟩ => h.length.trans (hlen ds d r)) fun cdv A outer s H vs Q E hr h => ?_
  obtain ⟨B, ds, d, e, h, r, q⟩ := h
  exact ⟨_, (body cdv A outer s H E ds d hr r).nox, B, H, B, .refl e, start_ok h (by rw [hN, hlen ds d r]), q⟩
/-- .. that falls through: None -/
theorem def_N (F : FnP K x st f fd) (S : FnScope N ps (defScope st)) (R : List PyData → PyData → Prop) (m : Nat) (hN : N.length = ps.length + m) (hlen : ∀ ds d, R ds d → ds.length = ps.length ∧ d = .none)
    (body : ∀ (cdv : Value) (A : Around) (outer : List PySem.Env) (s : Shared) (H : Hp) (E : XK) (ds : List PyData), Room k (A.deeper (envOfC x (defScope st) s.heap.objs.size f cdv)) → R ds .none →
      ∃ ρ', SN (cxOf CX0 P w K mg base N x (defScope st) f cdv A outer s H E).nox (defBody st) (ds.map .dat ++ List.replicate m .no) ρ') : FnOk P w K mg base CX0 (k + 1) f fd ps (spD R) := by
  refine F.ok S (fun vs H Q E ⟨B, ds, d, e, h, r, q⟩ => h.length.trans (hlen ds d r).1) fun cdv A outer s H vs Q E hr h => ?_
  obtain ⟨B, ds, d, e, h, r, q⟩ := h
  obtain ⟨hl, rfl⟩ := hlen ds d r
  obtain ⟨ρ', hb⟩ := body cdv A outer s H E ds hr r
  exact ⟨_, hb.nox, B, H, B, .refl e, start_ok h (by rw [hN, hl]), fun σ' B' H' g' _ _ => q .non B' H' g' .non⟩
/-- return tuple(..), its object known -/
def tF (ρ : Env) (d : PyData) : TS := fun D σ H => ∃ B0 H0 B, Grow B0 H0 B H ∧ Sok H0 B H σ ρ ∧ ∀ v B' H', Grow B0 H0 B' H' → Dd B' v d → Frz B' v → D.rt v H'
theorem def_F (F : FnP K x st f fd) (S : FnScope N ps (defScope st)) (R : List PyData → PyData → Prop) (m : Nat) (hN : N.length = ps.length + m) (hlen : ∀ ds d, R ds d → ds.length = ps.length)
    (body : ∀ (cdv : Value) (A : Around) (outer : List PySem.Env) (s : Shared) (H : Hp) (E : XK) (ds : List PyData) (d : PyData), Room k (A.deeper (envOfC x (defScope st) s.heap.objs.size f cdv)) → R ds d →
      PSs (cxOf CX0 P w K mg base N x (defScope st) f cdv A outer s H E).nox (defBody st) (tF (ds.map .dat ++ List.replicate m .no) d)) : FnOk P w K mg base CX0 (k + 1) f fd ps (spF R) := by
  refine F.ok S (fun vs H Q E ⟨B, ds, d, e, h, r, q⟩ => h.length.trans (hlen ds d r)) fun cdv A outer s H vs Q E hr h => ?_
  obtain ⟨B, ds, d, e, h, r, q⟩ := h
  exact ⟨_, (body cdv A outer s H E ds d hr r).nox, B, H, B, .refl e, start_ok h (by rw [hN, hlen ds d r]), q⟩
end
section
variable {X : Cx} {ρ ρ' ρ1 ρ2 : Env} {e a b c : Expr} {es : List Expr} {d d1 d2 d3 : PyData} {ds ds1 es' : List PyData} {pos p : Pos} {s : Stmt} {r : List Stmt}
theorem sf_cons (h1 : SN1 X s ρ ρ1) (h2 : PSs X r (tF ρ1 d)) : PSs X (s :: r) (tF ρ d) := pss_mono (pss_cons h1 h2) fun D σ H ⟨B0, H0, B, g, so, k⟩ => ⟨B0, H0, B, g, so, fun σ' B' H' g' e' so' => ⟨B0, H0, B', g', so', k⟩⟩
theorem sf_last (h : PS X s (tF ρ d)) : PSs X [s] (tF ρ d) := pss_one h
theorem sf_ret {p2 : Pos} (hm : X.mg "tuple" = none) (ha : PD X e ρ (.list ds)) (h1 : starEach (e :: []) X.env = (false, eval e X.env) :: starEach [] X.env := by rfl) (hg : Gl X "tuple" := by rfl) : PS X (.Return (some (.Call (.Name "tuple" p) [e] [] p2)) pos) (tF ρ (.tuple ds)) :=
  ps_mono (ps_ret (pe_callTy call_tuple_frz hg hm PyProof.Rows.boot_tuple (pds_one ha h1) (by decide) (by decide) h1)) fun D σ H ⟨B0, H0, B, g, so, k⟩ => ⟨H0, B, g.sub, so, fun vs B1 H1 g1 h => by
    obtain ⟨v, rfl, h'⟩ := h.one
    obtain ⟨l, xs, rfl, ha, hd⟩ := h'.lst_inv
    exact ⟨l, xs, rfl, SqL.of (g1.sub _ _ ha), fun q o hq ho ho' => k _ _ _ ((g.trans g1).trans (.new g1.sub hq)) (.tup (.inr ⟨o, upd_same⟩) (hd.mono (same_new (g1.sub.free hq) _))) ⟨q, o, xs, rfl, upd_same, ho, ho'⟩⟩⟩
/-! ### calls of defs -/
theorem tcall {R : List PyData → PyData → Prop} {E : XK} (hR : R ds d) : ∀ σ H Q, tD ρ d σ H Q → tCall (spD R) [] E (tDs ρ ds) σ H Q := fun σ H Q ⟨H0, B, e, so, q⟩ =>
  ⟨H0, B, e, so, fun vs B1 H1 g1 h1 => by
    show spD R (vs ++ []) H1 Q E
    rw [List.append_nil]
    exact ⟨B1, ds, d, g1.sub, h1, hR, fun v B2 H2 g2 h2 => q v B2 H2 (g1.trans g2) h2⟩⟩
theorem pd_call {x : Str} {k k' : Nat} {ps : List Str} {R : List PyData → PyData → Prop} (F : Has X.prog X.w X.K X.mg X.base x k ps (spD R)) (hr : Room k' X.A) (ha : PDs X (e :: es) ρ ds) (hR : R ds d) (hk : k ≤ k' := by decide) (hg : Gl X x := by rfl) (hdb : (x == ("__debug__" : Str)) = false := by decide)
    (he : starEach (e :: es) X.env = (false, eval e X.env) :: starEach es X.env := by rfl) (hpl : (backTo pos (starEach es X.env)).any (·.1) = false := by rfl) : PD X (.Call (.Name x p) (e :: es) [] pos) ρ d := by
  obtain ⟨f, fd, h1, h2, h3, h4⟩ := F.ok
  exact pe_mono (pe_call h1 (hr.mono hk) hg h2 h3 h4 .nil pass0 ha hdb he hpl) (tcall hR)
/-- x = f(..), the answer a tuple with its object known -/
theorem sn_setF (j : Nat) {y x : Str} {py p2 : Pos} {k k' : Nat} {ps : List Str} {R : List PyData → PyData → Prop} (hN : X.N.Nodup) (F : Has X.prog X.w X.K X.mg X.base x k ps (spF R)) (hr : Room k' X.A) (ha : PDs X (e :: es) ρ ds) (hR : R ds d) (hk : k ≤ k' := by decide) (hj : j < ρ.length := by exact Nat.le_of_ble_eq_true rfl) (hg : Gl X x := by rfl) (hdb : (x == ("__debug__" : Str)) = false := by decide)
    (he : starEach (e :: es) X.env = (false, eval e X.env) :: starEach es X.env := by rfl) (hpl : (backTo pos (starEach es X.env)).any (·.1) = false := by rfl) (hi : X.N[j]? = some y := by rfl) (hx : Loc X.env.scope y := by first | exact Or.inl rfl | exact Or.inr rfl) (hs : swapsWith (.Call (.Name x p) (e :: es) [] pos) (some (.Name y py)) p2.line X.env = pure false := by rfl) (hf : X.fn y = true ∨ X.env.scope.names.lookup y = some .local := by first | exact .inl rfl | exact .inr rfl | assumption) :
    SN1 X (.Assign [.Name y py] (.Call (.Name x p) (e :: es) [] pos) p2) ρ (ρ.set j (.fdat d)) := by
  obtain ⟨f, fd, h1, h2, h3, h4⟩ := F.ok
  refine ps_mono (ps_set hN hi hx (pe_call h1 (hr.mono hk) hg h2 h3 h4 .nil pass0 ha hdb he hpl) hs hf) fun D σ H ⟨B0, H0, B, g, so, kk⟩ => ⟨H0, B, g.sub, so, fun vs B1 H1 g1 h1 => ?_⟩
  show spF R (vs ++ []) H1 _ _
  rw [List.append_nil]
  refine ⟨B1, ds, d, g1.sub, h1, hR, fun v B2 H2 g2 h2 hF => kk _ B2 H2 ((g.trans g1).trans g2) (g1.trans g2).bb ?_⟩
  have so2 := ((so.grow g1).grow g2).setDat h2 hj
  refine ⟨by have := so2.len; rw [this, List.length_set, List.length_set], fun i s hs => ?_, fun i k s t l hne hs ht os ot h1 => ?_⟩
  · by_cases c : i = j
    · subst c
      rw [List.getElem?_set_self hj] at hs
      have es := Option.some.inj hs
      subst es
      exact ⟨v, List.getElem?_set_self (by rw [so.len]; exact hj), h2, hF⟩
    · rw [List.getElem?_set_ne (Ne.symm c)] at hs
      exact so2.slot i s (by rw [List.getElem?_set_ne (Ne.symm c)]; exact hs)
  · have back : ∀ (i : Nat) (t : Sl), (ρ.set j (.fdat d))[i]? = some t → t.own = true → (ρ.set j (.dat d))[i]? = some t := fun i t ht ot => by
      by_cases c : i = j
      · subst c
        rw [List.getElem?_set_self hj] at ht
        have es := Option.some.inj ht
        subst es
        cases ot
      · rw [List.getElem?_set_ne (Ne.symm c)] at ht ⊢
        exact ht
    exact so2.apart i k s t l hne (back i s hs os) (back k t ht ot) os ot h1
/-! ### forgetting a slot -/
theorem Sok.forget {H0 B H : Hp} {σ : L2.St} (x : Sok H0 B H σ ρ) (j : Nat) : Sok H0 B H σ (ρ.set j .no) := by
  have back : ∀ (i : Nat) (t : Sl), (ρ.set j .no)[i]? = some t → t = .no ∨ ρ[i]? = some t := fun i t ht => by
    by_cases c : i = j
    · subst c
      by_cases hl : i < ρ.length
      · rw [List.getElem?_set_self hl] at ht
        exact .inl (Option.some.inj ht).symm
      · rw [List.getElem?_eq_none (by rw [List.length_set]; omega)] at ht
        cases ht
    · rw [List.getElem?_set_ne (Ne.symm c)] at ht
      exact .inr ht
  refine ⟨by rw [List.length_set]; exact x.len, fun i s hs => ?_, fun i k s t l hne hs ht os ot h1 => ?_⟩
  · rcases back i s hs with z | z
    · rw [z]; trivial
    · exact x.slot i s z
  · rcases back i s hs with z | z
    · rw [z] at os; cases os
    · rcases back k t ht with z2 | z2
      · rw [z2] at ot; cases ot
      · exact x.apart i k s t l hne z z2 os ot h1
theorem sn_forget (j : Nat) (h : SN X r ρ ρ1) : SN X r ρ (ρ1.set j .no) := pss_mono h fun D σ H ⟨B0, H0, B, g, so, k⟩ => ⟨B0, H0, B, g, so, fun σ' B' H' g' e' so' => k σ' B' H' g' e' (so'.forget j)⟩
theorem SN.is (h : SN X r ρ ρ1) (q : ρ1 = ρ2) : SN X r ρ ρ2 := q ▸ h
theorem SN1.is (h : SN1 X s ρ ρ1) (q : ρ1 = ρ2) : SN1 X s ρ ρ2 := q ▸ h
theorem SN1.of (h : SN1 X s ρ ρ1) (q : ρ = ρ2) : SN1 X s ρ2 ρ1 := q ▸ h
/-! ### a, b = x, y -/
theorem DdAll.three {B : Hp} {vs : List V} (h : DdAll B vs [d1, d2, d3]) : ∃ u v w, vs = [u, v, w] ∧ Dd B u d1 ∧ Dd B v d2 ∧ Dd B w d3 := by
  cases h with
  | cons h k => obtain ⟨v, w, rfl, h2, h3⟩ := k.two; exact ⟨_, v, w, rfl, h, h2, h3⟩
theorem sn_par2 (i j : Nat) {x y : Str} {px py pt pt2 : Pos} {kt k2} (hc : X.calm = true) (hN : X.N.Nodup) (ha : PDs X [a, b] ρ [d1, d2]) (hij : i ≠ j := by decide) (hil : i < ρ.length := by exact Nat.le_of_ble_eq_true rfl) (hjl : j < ρ.length := by exact Nat.le_of_ble_eq_true rfl) (hi : X.N[i]? = some x := by rfl) (hj : X.N[j]? = some y := by rfl) (hx : X.env.scope.names.lookup x = some .local := by rfl) (hy : X.env.scope.names.lookup y = some .local := by rfl)
    (hw : swappedStores [.Tuple [.Name x px, .Name y py] kt pt] (.Tuple [a, b] k2 pt2) X.env = pure (some [x, y]) := by rfl) (hs : swapsWithSole [.Tuple [.Name x px, .Name y py] kt pt] (.Tuple [a, b] k2 pt2) pos.line X.env = pure false := by rfl) :
    SN1 X (.Assign [.Tuple [.Name x px, .Name y py] kt pt] (.Tuple [a, b] k2 pt2) pos) ρ ((ρ.set i (.dat d1)).set j (.dat d2)) :=
  ps_mono (ps_par hc hN hi hj hij hx hy ha hw hs) fun D σ H ⟨B0, H0, B, g, so, k⟩ => ⟨H0, B, g.sub, so, fun vs B1 H1 g1 h => by
    obtain ⟨v, w, rfl, h1, h2⟩ := h.two
    exact ⟨v, w, rfl, k _ B1 H1 (g.trans g1) g1.bb (((so.grow g1).setDat h1 hil).setDat h2 (by rw [List.length_set]; exact hjl))⟩⟩
/-- a, found = x, [] -/
theorem sn_par2own (i j : Nat) {x y : Str} {px py pt pt2 pl : Pos} {kt k2} (hc : X.calm = true) (hN : X.N.Nodup) (ha : PD X a ρ d) (hij : i ≠ j := by decide) (hil : i < ρ.length := by exact Nat.le_of_ble_eq_true rfl) (hjl : j < ρ.length := by exact Nat.le_of_ble_eq_true rfl) (hi : X.N[i]? = some x := by rfl) (hj : X.N[j]? = some y := by rfl) (hx : X.env.scope.names.lookup x = some .local := by rfl) (hy : X.env.scope.names.lookup y = some .local := by rfl)
    (hw : swappedStores [.Tuple [.Name x px, .Name y py] kt pt] (.Tuple [a, .List [] pl] k2 pt2) X.env = pure (some [x, y]) := by rfl) (hs : swapsWithSole [.Tuple [.Name x px, .Name y py] kt pt] (.Tuple [a, .List [] pl] k2 pt2) pos.line X.env = pure false := by rfl) (h1 : starEach (a :: [.List [] pl]) X.env = (false, eval a X.env) :: starEach [.List [] pl] X.env := by rfl) :
    SN1 X (.Assign [.Tuple [.Name x px, .Name y py] kt pt] (.Tuple [a, .List [] pl] k2 pt2) pos) ρ ((ρ.set i (.dat d)).set j (.lst [])) :=
  ps_mono (ps_par hc hN hi hj hij hx hy (pa_cons ha (pa_cons (pe_lst pa_nil) pa_nil) h1) hw hs) fun D σ H ⟨B0, H0, B, g, so, k⟩ => ⟨H0, B, g.sub, so, fun v B1 H1 g1 h => ⟨Nat.zero_le _, fun l hl =>
    ⟨v, .ref l, rfl, k _ B1 _ ((g.trans g1).trans (.aside g1.sub hl)) g1.bb (((so.grow g1).setDat h hil).setOwn hl ⟨l, [], rfl, upd_same, (g.trans g1).ext.free hl, g1.sub.free hl, .nil⟩ g1.sub (by rw [List.length_set]; exact hjl))⟩⟩⟩
theorem sn_par3 (i j m : Nat) {x y z : Str} {px py pz pt pt2 : Pos} {kt k2} (hc : X.calm = true) (hN : X.N.Nodup) (ha : PDs X [a, b, c] ρ [d1, d2, d3]) (hij : i ≠ j := by decide) (him : i ≠ m := by decide) (hjm : j ≠ m := by decide) (hil : i < ρ.length := by exact Nat.le_of_ble_eq_true rfl) (hjl : j < ρ.length := by exact Nat.le_of_ble_eq_true rfl) (hml : m < ρ.length := by exact Nat.le_of_ble_eq_true rfl)
    (hi : X.N[i]? = some x := by rfl) (hj : X.N[j]? = some y := by rfl) (hm : X.N[m]? = some z := by rfl) (hx : X.env.scope.names.lookup x = some .local := by rfl) (hy : X.env.scope.names.lookup y = some .local := by rfl) (hz : X.env.scope.names.lookup z = some .local := by rfl)
    (hw : swappedStores [.Tuple [.Name x px, .Name y py, .Name z pz] kt pt] (.Tuple [a, b, c] k2 pt2) X.env = pure (some [x, y, z]) := by rfl) (hs : swapsWithSole [.Tuple [.Name x px, .Name y py, .Name z pz] kt pt] (.Tuple [a, b, c] k2 pt2) pos.line X.env = pure false := by rfl) :
    SN1 X (.Assign [.Tuple [.Name x px, .Name y py, .Name z pz] kt pt] (.Tuple [a, b, c] k2 pt2) pos) ρ (((ρ.set i (.dat d1)).set j (.dat d2)).set m (.dat d3)) :=
  ps_mono (ps_par3 hc hN hi hj hm hij him hjm hx hy hz ha hw hs) fun D σ H ⟨B0, H0, B, g, so, k⟩ => ⟨H0, B, g.sub, so, fun vs B1 H1 g1 h => by
    obtain ⟨u, v, w, rfl, h1, h2, h3⟩ := h.three
    exact ⟨u, v, w, rfl, k _ B1 H1 (g.trans g1) g1.bb ((((so.grow g1).setDat h1 hil).setDat h2 (by rw [List.length_set]; exact hjl)).setDat h3 (by rw [List.length_set, List.length_set]; exact hml))⟩⟩
/-! ### lists that grow, read -/
/-- found[e] -/
theorem pd_ownIx (i : Nat) {n : Int} {x : Str} {px : Pos} (hb : PD X b ρ (.int n)) (h : atI ds n = some d) (hi : ρ[i]? = some (.lst ds) := by rfl) (hN : X.N[i]? = some x := by rfl) (hv : Vis X.env.scope x := by first | exact Or.inl rfl | exact Or.inr (Or.inl rfl) | exact Or.inr (Or.inr rfl)) (h1 : (x == ("__debug__" : Str)) = false := by decide) (h2 : (x == ("__classdict__" : Str)) = false := by decide) (hs : PlainIx b := by exact fun _ _ => rfl) :
    PD X (.Subscript (.Name x px) b pos) ρ d := pe_mono (pe_ix ix_list (pe_var hN hv h1 h2) hb hs) fun σ H Q ⟨H0, B, e, so, q⟩ => by
  obtain ⟨l, xs, q1, q2, q3, q4, q5⟩ := so.lst hi
  refine ⟨_, q1, H0, B, e, so, fun y B1 H1 g1 hy => ?_⟩
  obtain ⟨j, hj, h'⟩ := Option.bind_eq_some_iff.mp h
  obtain ⟨v, hv, hd⟩ := q5.get h'
  refine ⟨l, xs, n, v, rfl, hy.int_inv, SqL.of (g1.ext _ _ q2), ?_, q v B1 H1 g1 (hd.mono g1.bb)⟩
  unfold atI
  rw [q5.length, hj]
  exact hv
/-! ### dicts of numbers that grow -/
theorem valV_keys (k : Int) : ∀ ks : List Int, (valV (keysV ks) (Sum.inl k : Key)).isSome = decide (k ∈ ks) := fun ks => by
  unfold valV keysV
  rw [Option.isSome_map, Bool.eq_iff_iff, decide_eq_true_iff]
  constructor
  · intro h
    obtain ⟨kv, h⟩ := Option.isSome_iff_exists.mp h
    have h1 := List.find?_some h
    obtain ⟨a, ha, rfl⟩ := List.mem_map.mp (List.mem_of_find?_eq_some h)
    rw [← Sum.inl.inj (of_decide_eq_true h1)]
    exact ha
  · intro h
    rw [List.find?_isSome]
    exact ⟨_, List.mem_map.mpr ⟨k, h, rfl⟩, decide_eq_true rfl⟩
def putI (ks : List Int) (k : Int) : List Int := if k ∈ ks then ks else ks ++ [k]
theorem putK_keys (ks : List Int) (k : Int) : putK (keysV ks) (Sum.inl k) (V.bl true) = keysV (putI ks k) := by
  unfold putK putI
  have e : ((keysV ks).any fun kv => decide (kv.1 = (Sum.inl k : Key))) = decide (k ∈ ks) := by
    unfold keysV
    rw [List.any_map]
    rw [Bool.eq_iff_iff, List.any_eq_true, decide_eq_true_iff]
    constructor
    · rintro ⟨a, ha, h⟩
      have := of_decide_eq_true h
      rw [← Sum.inl.inj this]
      exact ha
    · exact fun h => ⟨k, h, decide_eq_true rfl⟩
  rw [e]
  by_cases c : k ∈ ks
  · rw [decide_eq_true c, if_pos rfl, if_pos c]
    unfold keysV
    rw [List.map_map]
    refine List.map_congr_left fun a _ => ?_
    show (if (Sum.inl a : Key) = Sum.inl k then (Sum.inl a, V.bl true) else (Sum.inl a, V.bl true)) = _
    split <;> rfl
  · rw [decide_eq_false c, if_neg Bool.false_ne_true, if_neg c]
    unfold keysV
    rw [List.map_append] <;> rfl
/-- found = {} -/
theorem sn_setDict0 (j : Nat) {x : Str} {px pl : Pos} (hN : X.N.Nodup) (hj : j < ρ.length := by exact Nat.le_of_ble_eq_true rfl) (hi : X.N[j]? = some x := by rfl) (hx : Loc X.env.scope x := by first | exact Or.inl rfl | exact Or.inr rfl) (hs : swapsWith (.Dict [] [] pl) (some (.Name x px)) pos.line X.env = pure false := by rfl) (hf : X.fn x = true ∨ X.env.scope.names.lookup x = some .local := by first | exact .inl rfl | exact .inr rfl | assumption) :
    SN1 X (.Assign [.Name x px] (.Dict [] [] pl) pos) ρ (ρ.set j (.dic [])) := ps_mono (ps_set hN hi hx pe_dnewK hs hf) fun D σ H ⟨B0, H0, B, g, so, k⟩ l hl =>
  k _ B _ (g.trans (.aside g.sub hl)) (.refl B) (so.setOwn hl ⟨l, rfl, upd_same, g.ext.free hl, g.sub.free hl⟩ g.sub hj)
/-- e in found -/
theorem ptd_inDic (i : Nat) {ks : List Int} {n : Int} {x : Str} {px : Pos} (hu : X.A.units + 1 < cLine) (ha : PD X a ρ (.int n)) (hi : ρ[i]? = some (.dic ks) := by rfl) (hN : X.N[i]? = some x := by rfl) (hv : Vis X.env.scope x := by first | exact Or.inl rfl | exact Or.inr (Or.inl rfl) | exact Or.inr (Or.inr rfl)) (h1 : (x == ("__debug__" : Str)) = false := by decide) (h2 : (x == ("__classdict__" : Str)) = false := by decide)
    (hm : behindInMarks .In (.Name x px) = false := by rfl) : PTD X (.Compare a [.In] [.Name x px] pos) ρ (decide (n ∈ ks)) := pt_mono (pt_cmp (pc_din hu ha (pe_var hN hv h1 h2)) hm) fun σ H Q ⟨H0, B, e, so, q⟩ => ⟨H0, B, e, so, fun v B1 H1 g1 hv => by
  obtain ⟨l, q1, q2, q3, q4⟩ := so.dic hi
  refine ⟨_, q1, l, valV (keysV ks) (Sum.inl n : Key), rfl, ?_, _, rfl, ?_⟩
  · rw [hv.int_inv]
    exact DGet.k (k := Sum.inl n) (g1.ext _ _ q2)
  · rw [valV_keys]
    exact q B1 H1 g1⟩
/-- found[e] = True -/
theorem sn_dput (i : Nat) {ks : List Int} {n : Int} {x : Str} {px pc p2 : Pos} {j} (hu : X.A.units + 1 < cLine) (hb : PD X b ρ (.int n)) (hz : ks.length < 90000) (hi : ρ[i]? = some (.dic ks) := by rfl) (hN : X.N[i]? = some x := by rfl) (hv : Vis X.env.scope x := by first | exact Or.inl rfl | exact Or.inr (Or.inl rfl) | exact Or.inr (Or.inr rfl)) (h1 : (x == ("__debug__" : Str)) = false := by decide) (h2 : (x == ("__classdict__" : Str)) = false := by decide)
    (hs : swapsWith (.Constant (.bool true) j pc) (some (.Subscript (.Name x px) b p2)) pos.line X.env = pure false := by rfl) : SN1 X (.Assign [.Subscript (.Name x px) b p2] (.Constant (.bool true) j pc) pos) ρ (ρ.set i (.dic (putI ks n))) :=
  ps_mono (ps_dput hu (pe_var hN hv h1 h2) hb pe_bl hs) fun D σ H ⟨B0, H0, B, g, so, k⟩ => by
    obtain ⟨l, q1, q2, q3, q4⟩ := so.dic hi
    refine ⟨_, q1, H0, B, g.sub, so, fun v B1 H1 g1 hv => ?_⟩
    have q2' := g1.ext _ _ q2
    have q4' := sep_of g1 q2 q4
    refine ⟨l, _, rfl, by rw [hv.int_inv]; exact DPut.k (k := Sum.inl n) q2' (by unfold keysV; rw [List.length_map]; exact szl (by omega)), ?_⟩
    rw [putK_keys]
    exact k σ B1 _ ((g.trans g1).mut q3 q4') g1.bb ((so.grow g1).mutate hi rfl q1 rfl ⟨l, rfl, upd_same, q3, q4'⟩)
/-- sorted(list(found)) -/
theorem pd_sortDic (i : Nat) {ks : List Int} (ms : List Int) {x : Str} {px p2 q2 : Pos} (hc : X.calm = true) (hm : X.mg "sorted" = none) (hm2 : X.mg "list" = none) (hz : ks.length < 64) (hp : ms.Perm ks) (hsrt : ms.Pairwise (· ≤ ·)) (hi : ρ[i]? = some (.dic ks) := by rfl) (hN : X.N[i]? = some x := by rfl) (hv : Vis X.env.scope x := by first | exact Or.inl rfl | exact Or.inr (Or.inl rfl) | exact Or.inr (Or.inr rfl)) (h1 : (x == ("__debug__" : Str)) = false := by decide) (h2 : (x == ("__classdict__" : Str)) = false := by decide)
    (hg : Gl X "sorted" := by rfl) (hg2 : Gl X "list" := by rfl) : PD X (.Call (.Name "sorted" p) [.Call (.Name "list" p2) [.Name x px] [] q2] [] pos) ρ (.list (ms.map .int)) :=
  pe_mono (pe_callB cr_sorted hg hm PyProof.Rows.boot_sorted (pa_cons (pe_callTy (call_list_dK hc) hg2 hm2 PyProof.Rows.boot_list (pa_cons (pe_var hN hv h1 h2) pa_nil)) pa_nil)) fun σ H Q ⟨H0, B, e, so, q⟩ => by
    obtain ⟨l, q1, q2, q3, q4⟩ := so.dic hi
    refine ⟨_, q1, l, _, rfl, q2, fun t ht => ?_⟩
    have ek : ((keysV ks).map fun kv => kV kv.1) = ks.map V.int := by
      unfold keysV
      rw [List.map_map] <;> rfl
    rw [ek]
    have g2 : Grow B H B (upd H t (.lst (ks.map V.int))) := .aside e ht
    refine ⟨t, ks, rfl, SqL.of upd_same, hz, fun ns' p' hp' hs' np => ?_⟩
    have en : ns' = ms := sorted_uniq (hp'.trans hp.symm) hs' hsrt
    subst en
    exact q _ _ _ (g2.trans (.new g2.sub np)) (.lst upd_same (.ofInts ns'))
end
end Dc
end

section
set_option maxHeartbeats 4000000
/-! The text by places: each def and its names by slot, parameters first. -/
namespace Tx
open PySem PySem.Spec PyProof.Rows L2 Dc
def top (i : Nat) : Stmt := PySem.Challenge.pw_standgates_k12_whole_smaller_nets.main.body.getD i (.Pass ⟨0, 0, 0, 0⟩)
abbrev s_is_integer : Stmt := top 8
abbrev n_is_integer : List Str := ["value"]
theorem sc_is_integer : FnScope n_is_integer ["value"] (defScope s_is_integer) := ⟨rfl, rfl, rfl, by decide +kernel, rfl, by decide +kernel, by decide +kernel⟩
abbrev s_is_in : Stmt := top 9
abbrev n_is_in : List Str := ["value", "least", "most"]
theorem sc_is_in : FnScope n_is_in ["value", "least", "most"] (defScope s_is_in) := ⟨rfl, rfl, rfl, by decide +kernel, rfl, by decide +kernel, by decide +kernel⟩
abbrev s_is_list : Stmt := top 10
abbrev n_is_list : List Str := ["value", "least", "most"]
theorem sc_is_list : FnScope n_is_list ["value", "least", "most"] (defScope s_is_list) := ⟨rfl, rfl, rfl, by decide +kernel, rfl, by decide +kernel, by decide +kernel⟩
abbrev s_need_net : Stmt := top 14
abbrev n_need_net : List Str := ["net", "index", "near", "other"]
theorem sc_need_net : FnScope n_need_net ["net"] (defScope s_need_net) := ⟨rfl, rfl, rfl, by decide +kernel, rfl, by decide +kernel, by decide +kernel⟩
abbrev s_size_of : Stmt := top 15
abbrev n_size_of : List Str := ["net"]
theorem sc_size_of : FnScope n_size_of ["net"] (defScope s_size_of) := ⟨rfl, rfl, rfl, by decide +kernel, rfl, by decide +kernel, by decide +kernel⟩
abbrev s_need_person : Stmt := top 16
abbrev n_need_person : List Str := ["net", "person"]
theorem sc_need_person : FnScope n_need_person ["net", "person"] (defScope s_need_person) := ⟨rfl, rfl, rfl, by decide +kernel, rfl, by decide +kernel, by decide +kernel⟩
abbrev s_need_answers : Stmt := top 17
abbrev n_need_answers : List Str := ["net", "answers", "who"]
theorem sc_need_answers : FnScope n_need_answers ["net", "answers"] (defScope s_need_answers) := ⟨rfl, rfl, rfl, by decide +kernel, rfl, by decide +kernel, by decide +kernel⟩
abbrev s_friends_in : Stmt := top 18
abbrev n_friends_in : List Str := ["net", "person"]
theorem sc_friends_in : FnScope n_friends_in ["net", "person"] (defScope s_friends_in) := ⟨rfl, rfl, rfl, by decide +kernel, rfl, by decide +kernel, by decide +kernel⟩
abbrev s_all_bits : Stmt := top 19
abbrev n_all_bits : List Str := ["inputs", "found", "turn", "bits", "bit"]
theorem sc_all_bits : FnScope n_all_bits ["inputs"] (defScope s_all_bits) := ⟨rfl, rfl, rfl, by decide +kernel, rfl, by decide +kernel, by decide +kernel⟩
abbrev s_uppers_in : Stmt := top 20
abbrev n_uppers_in : List Str := ["net", "answers", "found", "person", "other"]
theorem sc_uppers_in : FnScope n_uppers_in ["net", "answers"] (defScope s_uppers_in) := ⟨rfl, rfl, rfl, by decide +kernel, rfl, by decide +kernel, by decide +kernel⟩
abbrev s_standing_in : Stmt := top 22
abbrev n_standing_in : List Str := ["net", "bits", "found", "near", "other"]
theorem sc_standing_in : FnScope n_standing_in ["net", "bits"] (defScope s_standing_in) := ⟨rfl, rfl, rfl, by decide +kernel, rfl, by decide +kernel, by decide +kernel⟩
abbrev s_paper_in : Stmt := top 23
abbrev n_paper_in : List Str := ["net", "ends", "bits", "person", "end"]
theorem sc_paper_in : FnScope n_paper_in ["net"] (defScope s_paper_in) := ⟨rfl, rfl, rfl, by decide +kernel, rfl, by decide +kernel, by decide +kernel⟩
abbrev s_tables_of : Stmt := top 25
abbrev n_tables_of : List Str := ["net", "answers", "lines", "person"]
theorem sc_tables_of : FnScope n_tables_of ["net", "answers"] (defScope s_tables_of) := ⟨rfl, rfl, rfl, by decide +kernel, rfl, by decide +kernel, by decide +kernel⟩
abbrev s_cut_in : Stmt := top 26
abbrev n_cut_in : List Str := ["net", "person", "other", "at", "near", "one"]
theorem sc_cut_in : FnScope n_cut_in ["net", "person", "other"] (defScope s_cut_in) := ⟨rfl, rfl, rfl, by decide +kernel, rfl, by decide +kernel, by decide +kernel⟩
abbrev s_cut : Stmt := top 27
abbrev n_cut : List Str := ["net", "person", "other"]
theorem sc_cut : FnScope n_cut ["net", "person", "other"] (defScope s_cut) := ⟨rfl, rfl, rfl, by decide +kernel, rfl, by decide +kernel, by decide +kernel⟩
abbrev s_tied : Stmt := top 28
abbrev n_tied : List Str := ["net", "person", "other", "at"]
theorem sc_tied : FnScope n_tied ["net", "person", "other"] (defScope s_tied) := ⟨rfl, rfl, rfl, by decide +kernel, rfl, by decide +kernel, by decide +kernel⟩
abbrev s_left : Stmt := top 29
abbrev n_left : List Str := ["net", "kept", "order", "found", "who", "one"]
theorem sc_left : FnScope n_left ["net", "kept"] (defScope s_left) := ⟨rfl, rfl, rfl, by decide +kernel, rfl, by decide +kernel, by decide +kernel⟩
abbrev s_taken_out : Stmt := top 30
abbrev n_taken_out : List Str := ["net", "person", "who"]
theorem sc_taken_out : FnScope n_taken_out ["net", "person"] (defScope s_taken_out) := ⟨rfl, rfl, rfl, by decide +kernel, rfl, by decide +kernel, by decide +kernel⟩
abbrev s_needless_friends : Stmt := top 31
abbrev n_needless_friends : List Str := ["net", "answers"]
theorem sc_needless_friends : FnScope n_needless_friends ["net", "answers"] (defScope s_needless_friends) := ⟨rfl, rfl, rfl, by decide +kernel, rfl, by decide +kernel, by decide +kernel⟩
abbrev s_needless_in : Stmt := top 32
abbrev n_needless_in : List Str := ["net", "answers", "due", "found", "person", "other"]
theorem sc_needless_in : FnScope n_needless_in ["net", "answers"] (defScope s_needless_in) := ⟨rfl, rfl, rfl, by decide +kernel, rfl, by decide +kernel, by decide +kernel⟩
abbrev s_needless_people : Stmt := top 33
abbrev n_needless_people : List Str := ["net", "answers", "due", "found", "person", "later", "who"]
theorem sc_needless_people : FnScope n_needless_people ["net", "answers"] (defScope s_needless_people) := ⟨rfl, rfl, rfl, by decide +kernel, rfl, by decide +kernel, by decide +kernel⟩
abbrev s_only_needed : Stmt := top 34
abbrev n_only_needed : List Str := ["net", "answers", "kept", "who"]
theorem sc_only_needed : FnScope n_only_needed ["net", "answers"] (defScope s_only_needed) := ⟨rfl, rfl, rfl, by decide +kernel, rfl, by decide +kernel, by decide +kernel⟩
abbrev s_joined : Stmt := top 35
abbrev n_joined : List Str := ["net", "answers", "lines", "first", "kept", "found", "who", "line", "one"]
theorem sc_joined : FnScope n_joined ["net", "answers"] (defScope s_joined) := ⟨rfl, rfl, rfl, by decide +kernel, rfl, by decide +kernel, by decide +kernel⟩
abbrev s_thinned : Stmt := top 36
abbrev n_thinned : List Str := ["net", "answers", "here", "some", "kept", "who"]
theorem sc_thinned : FnScope n_thinned ["net", "answers"] (defScope s_thinned) := ⟨rfl, rfl, rfl, by decide +kernel, rfl, by decide +kernel, by decide +kernel⟩
abbrev s_is_thin : Stmt := top 37
abbrev n_is_thin : List Str := ["net", "answers", "upper", "who"]
theorem sc_is_thin : FnScope n_is_thin ["net", "answers"] (defScope s_is_thin) := ⟨rfl, rfl, rfl, by decide +kernel, rfl, by decide +kernel, by decide +kernel⟩
abbrev s_same_answers : Stmt := top 38
abbrev n_same_answers : List Str := ["one", "answers", "other", "others"]
theorem sc_same_answers : FnScope n_same_answers ["one", "answers", "other", "others"] (defScope s_same_answers) := ⟨rfl, rfl, rfl, by decide +kernel, rfl, by decide +kernel, by decide +kernel⟩
abbrev s_L_taken : Stmt := top 40
abbrev n_L_taken : List Str := ["_law_row", "_law_many", "_law_found", "_law_cell"]
theorem sc_L_taken : FnScope n_L_taken ["_law_row", "_law_many"] (defScope s_L_taken) := ⟨rfl, rfl, rfl, by decide +kernel, rfl, by decide +kernel, by decide +kernel⟩
abbrev s_L_alike : Stmt := top 41
abbrev n_L_alike : List Str := ["_law_found", "_law_due", "_law_k"]
theorem sc_L_alike : FnScope n_L_alike ["_law_found", "_law_due"] (defScope s_L_alike) := ⟨rfl, rfl, rfl, by decide +kernel, rfl, by decide +kernel, by decide +kernel⟩
abbrev s_L_net : Stmt := top 42
abbrev n_L_net : List Str := ["_law_row", "_law_most", "_law_size", "_law_gates", "_law_turn", "_law_near", "_law_who"]
theorem sc_L_net : FnScope n_L_net ["_law_row", "_law_most"] (defScope s_L_net) := ⟨rfl, rfl, rfl, by decide +kernel, rfl, by decide +kernel, by decide +kernel⟩
abbrev s_L_bits : Stmt := top 43
abbrev n_L_bits : List Str := ["_law_size", "_law_found", "_law_turn", "_law_longer", "_law_bits_here"]
theorem sc_L_bits : FnScope n_L_bits ["_law_size"] (defScope s_L_bits) := ⟨rfl, rfl, rfl, by decide +kernel, rfl, by decide +kernel, by decide +kernel⟩
abbrev s_L_end : Stmt := top 44
abbrev n_L_end : List Str := ["_law_net_here", "_law_bits_here", "_law_found", "_law_near", "_law_who"]
theorem sc_L_end : FnScope n_L_end ["_law_net_here", "_law_bits_here"] (defScope s_L_end) := ⟨rfl, rfl, rfl, by decide +kernel, rfl, by decide +kernel, by decide +kernel⟩
abbrev s_L_paper : Stmt := top 45
abbrev n_L_paper : List Str := ["_law_net_here", "_law_lines", "_law_bits_here", "_law_who", "_law_line"]
theorem sc_L_paper : FnScope n_L_paper ["_law_net_here"] (defScope s_L_paper) := ⟨rfl, rfl, rfl, by decide +kernel, rfl, by decide +kernel, by decide +kernel⟩
abbrev s_L_answers : Stmt := top 46
abbrev n_L_answers : List Str := ["_law_row", "_law_net_here", "_law_size", "_law_some", "_law_who"]
theorem sc_L_answers : FnScope n_L_answers ["_law_row", "_law_net_here"] (defScope s_L_answers) := ⟨rfl, rfl, rfl, by decide +kernel, rfl, by decide +kernel, by decide +kernel⟩
abbrev s_L_told : Stmt := top 47
abbrev n_L_told : List Str := ["_law_work", "e"]
theorem sc_L_told : FnScope n_L_told ["_law_work"] (defScope s_L_told) := ⟨rfl, rfl, rfl, by decide +kernel, rfl, by decide +kernel, by decide +kernel⟩
abbrev s_L_left : Stmt := top 48
abbrev n_L_left : List Str := ["_law_net_here", "_law_kept", "_law_found", "_law_who", "_law_one"]
theorem sc_L_left : FnScope n_L_left ["_law_net_here", "_law_kept"] (defScope s_L_left) := ⟨rfl, rfl, rfl, by decide +kernel, rfl, by decide +kernel, by decide +kernel⟩
abbrev s_L_cut : Stmt := top 49
abbrev n_L_cut : List Str := ["_law_net_here", "_law_who", "_law_other", "_law_at", "_law_one"]
theorem sc_L_cut : FnScope n_L_cut ["_law_net_here", "_law_who", "_law_other"] (defScope s_L_cut) := ⟨rfl, rfl, rfl, by decide +kernel, rfl, by decide +kernel, by decide +kernel⟩
abbrev s_L_upper : Stmt := top 50
abbrev n_L_upper : List Str := ["_law_net_here", "_law_answers_here", "_law_who", "_law_known", "_law_turn", "_law_one"]
theorem sc_L_upper : FnScope n_L_upper ["_law_net_here", "_law_answers_here"] (defScope s_L_upper) := ⟨rfl, rfl, rfl, by decide +kernel, rfl, by decide +kernel, by decide +kernel⟩
abbrev s_L_rest : Stmt := top 51
abbrev n_L_rest : List Str := ["_law_row", "_law_net_here", "_law_size", "_law_near", "_law_told_here", "_law_other", "_law_who", "_law_one"]
theorem sc_L_rest : FnScope n_L_rest ["_law_row", "_law_net_here"] (defScope s_L_rest) := ⟨rfl, rfl, rfl, by decide +kernel, rfl, by decide +kernel, by decide +kernel⟩
abbrev s_Law : Stmt := top 52
abbrev n_Law : List Str := ["_law_script", "_law_row", "_law_net_here", "_law_answers_here", "_law_size", "_law_lines", "_law_who", "_law_goal", "_law_idle", "_law_gone", "_law_other", "_law_bent", "_law_upper_here", "_law_here", "_law_some", "_law_turn", "_law_kept", "_law_first", "_law_due", "_law_told_here", "_law_its", "_law_thin", "_law_mine", "_law_one", "_law_line"]
theorem sc_Law : FnScope n_Law ["_law_script"] (defScope s_Law) := ⟨rfl, rfl, rfl, by decide +kernel, rfl, by decide +kernel, by decide +kernel⟩
end Tx
end

section
set_option maxHeartbeats 4000000
namespace Dc
open PySem PySem.Spec PyProof.Rows L2
/-! ### data of nets -/
def dL (l : List Nat) : PyData := .list (l.map dN)
def dNet (N : Nt.Net) : PyData := .tuple [dN N.1, .tuple (N.2.map dT)]
theorem mapN (l : List Nat) : l.map dN = (l.map Int.ofNat).map PyData.int := by rw [List.map_map]; rfl
theorem isTup {ds : List PyData} : IsSeq (.tuple ds) ds := .inr rfl
theorem isLst {ds : List PyData} : IsSeq (.list ds) ds := .inl rfl
theorem atI_nat {α : Type} {ds : List α} {k : Nat} {d : α} (h : ds[k]? = some d) : atI ds (k : Int) = some d := by
  have hk := (List.getElem?_eq_some_iff.mp h).1
  unfold atI ixN
  rw [if_pos (by omega), if_pos (by omega)]
  exact h
theorem mem_ofNat {l : List Nat} {n : Nat} : (n : Int) ∈ l.map Int.ofNat ↔ n ∈ l := by
  rw [List.mem_map]
  constructor
  · rintro ⟨a, ha, e⟩
    rw [← Int.ofNat.inj e]
    exact ha
  · exact fun h => ⟨n, h, rfl⟩
theorem idx_ofNat (n : Nat) : ∀ l : List Nat, (l.map Int.ofNat).idxOf (n : Int) = l.idxOf n
  | [] => rfl
  | a :: l => by
    rw [List.map_cons, List.idxOf_cons, List.idxOf_cons, idx_ofNat n l]
    have e : ((Int.ofNat a : Int) == (n : Int)) = (a == n) := by
      rw [Bool.eq_iff_iff, beq_iff_eq, beq_iff_eq]
      exact ⟨Int.ofNat.inj, fun h => by rw [h] <;> rfl⟩
    rw [e]
theorem kb_ii : kitB "int" "int" = some true := by decide +kernel
theorem kb_ib : kitB "int" "bool" = some false := by decide +kernel
theorem kb_tt : kitB "tuple" "tuple" = some true := by decide +kernel
theorem mapN_asc {l : List Nat} (h : l.Pairwise (· < ·)) : (l.map Int.ofNat).Pairwise (· < ·) := List.pairwise_map.mpr (h.imp fun h => Int.ofNat_lt.mpr h)
section
variable {X : Cx} {ρ : Env} {e a b c : Expr} {es : List Expr} {d d1 d2 : PyData} {ds ds1 es' : List PyData} {pos p : Pos}
theorem PTD.to {k k' : Bool} (h : PTD X e ρ k) (q : k = k') : PTD X e ρ k' := q ▸ h
theorem PD.to {d'} (h : PD X e ρ d) (q : d = d') : PD X e ρ d' := q ▸ h
theorem pd_n (n : Nat) {j} {i : Int} (h : i = (n : Int) := by rfl) : PD X (.Constant (.int i) j pos) ρ (dN n) := by
  subst h
  exact pd_int
theorem pd_addN {i j : Nat} (ha : PD X a ρ (dN i)) (hb : PD X b ρ (dN j)) : PD X (.BinOp a .Add b pos) ρ (dN (i + j)) := (pd_add ha hb).is (by unfold dN; rw [Int.natCast_add])
theorem pd_subN {i j : Nat} (ha : PD X a ρ (dN i)) (hb : PD X b ρ (dN j)) (h : j ≤ i) : PD X (.BinOp a .Sub b pos) ρ (dN (i - j)) := (pd_sub ha hb).is (by unfold dN; rw [Int.ofNat_sub h])
theorem pd_gtN {i j : Nat} (ha : PD X a ρ (dN i)) (hb : PD X b ρ (dN j)) : PD X (.Compare a [.Gt] [b] pos) ρ (.bool (decide (j < i))) := (pd_gt ha hb).is (by congr 1; rw [decide_eq_decide]; exact Int.ofNat_lt)
theorem pd_ltN {i j : Nat} (ha : PD X a ρ (dN i)) (hb : PD X b ρ (dN j)) : PD X (.Compare a [.Lt] [b] pos) ρ (.bool (decide (i < j))) := (pd_lt ha hb).is (by congr 1; rw [decide_eq_decide]; exact Int.ofNat_lt)
theorem ptd_gtN {i j : Nat} (ha : PD X a ρ (dN i)) (hb : PD X b ρ (dN j)) : PTD X (.Compare a [.Gt] [b] pos) ρ (decide (j < i)) := (ptd_gt ha hb).to (by rw [decide_eq_decide]; exact Int.ofNat_lt)
theorem ptd_ltN {i j : Nat} (ha : PD X a ρ (dN i)) (hb : PD X b ρ (dN j)) : PTD X (.Compare a [.Lt] [b] pos) ρ (decide (i < j)) := (ptd_lt ha hb).to (by rw [decide_eq_decide]; exact Int.ofNat_lt)
theorem ptd_geN {i j : Nat} (ha : PD X a ρ (dN i)) (hb : PD X b ρ (dN j)) : PTD X (.Compare a [.GtE] [b] pos) ρ (decide (j ≤ i)) := (ptd_ge ha hb).to (by rw [decide_eq_decide]; exact Int.ofNat_le)
theorem eqv_N (i j : Nat) : PyData.eqv (dN i) (dN j) = (i == j) := by
  show ((i : Int) == (j : Int)) = (i == j)
  rw [Bool.eq_iff_iff, beq_iff_eq, beq_iff_eq]
  exact Int.ofNat_inj
theorem ptd_eqN {i j : Nat} (hu : X.A.units + 64 < cLine) (ha : PD X a ρ (dN i)) (hb : PD X b ρ (dN j)) : PTD X (.Compare a [.Eq] [b] pos) ρ (i == j) := (ptd_eq hu ha hb rfl rfl).to (eqv_N i j)
theorem ptd_neN {i j : Nat} (hu : X.A.units + 64 < cLine) (ha : PD X a ρ (dN i)) (hb : PD X b ρ (dN j)) : PTD X (.Compare a [.NotEq] [b] pos) ρ (i != j) := (ptd_ne hu ha hb rfl rfl).to (by rw [eqv_N]; rfl)
theorem pd_eqN {i j : Nat} (hu : X.A.units + 64 < cLine) (ha : PD X a ρ (dN i)) (hb : PD X b ρ (dN j)) : PD X (.Compare a [.Eq] [b] pos) ρ (.bool (i == j)) := (pd_eq hu ha hb rfl rfl).is (by rw [eqv_N])
theorem pd_ixTN {k : Nat} (ha : PD X a ρ (.tuple ds)) (hb : PD X b ρ (dN k)) (h : ds[k]? = some d) (hs : PlainIx b := by exact fun _ _ => rfl) : PD X (.Subscript a b pos) ρ d := pd_ixT ha hb (atI_nat h) hs
theorem pd_ixLN {k : Nat} (ha : PD X a ρ (.list ds)) (hb : PD X b ρ (dN k)) (h : ds[k]? = some d) (hs : PlainIx b := by exact fun _ _ => rfl) : PD X (.Subscript a b pos) ρ d := pd_ixL ha hb (atI_nat h) hs
theorem ptd_inN {i : Nat} {ns : List Nat} (ha : PD X a ρ (dN i)) (hb : PD X b ρ d) (hd : IsSeq d (ns.map dN)) (hm : behindInMarks .In b = false := by rfl) : PTD X (.Compare a [.In] [b] pos) ρ (decide (i ∈ ns)) :=
  (ptd_in (ns := ns.map Int.ofNat) ha hb (by rw [← mapN]; exact hd.symm) hm).to (by rw [decide_eq_decide]; exact mem_ofNat)
theorem ptd_notInN {i : Nat} {ns : List Nat} (ha : PD X a ρ (dN i)) (hb : PD X b ρ d) (hd : IsSeq d (ns.map dN)) (hm : behindInMarks .NotIn b = false := by rfl) : PTD X (.Compare a [.NotIn] [b] pos) ρ (!decide (i ∈ ns)) :=
  (ptd_notIn (ns := ns.map Int.ofNat) ha hb (by rw [← mapN]; exact hd.symm) hm).to (by congr 1; rw [decide_eq_decide]; exact mem_ofNat)
theorem pd_inN {i : Nat} {ns : List Nat} (ha : PD X a ρ (dN i)) (hb : PD X b ρ d) (hd : IsSeq d (ns.map dN)) (hm : behindInMarks .In b = false := by rfl) : PD X (.Compare a [.In] [b] pos) ρ (.bool (decide (i ∈ ns))) :=
  (pd_in (ns := ns.map Int.ofNat) ha hb (by rw [← mapN]; exact hd.symm) hm).is (by congr 1; rw [decide_eq_decide]; exact mem_ofNat)
theorem pd_indexN {ns : List Nat} {n : Nat} {o : Expr} {apos cpos : Pos} (ho : PD X o ρ (.list (ns.map dN))) (ha : PD X e ρ (dN n)) (hn : n ∈ ns) (hbase : attributeBase o "index" X.env (eval o X.env) = eval o X.env := by rfl)
    (hfew : ((backTo cpos (starEach (e :: []) X.env)).all (fun x => !x.1) && (backToKw cpos (keywordEach [] X.env)).all (fun x => x.1.isSome) && decide ((e :: ([] : List Expr)).length + ([] : List Keyword).length + (if ([] : List Keyword).isEmpty then 0 else 1) < 30)) = true := by rfl)
    (hline : (apos.endLine == cpos.line) = true := by rfl) (hs : starEach (e :: []) X.env = (false, eval e X.env) :: starEach [] X.env := by rfl) : PD X (.Call (.Attribute o "index" apos) [e] [] cpos) ρ (dN (ns.idxOf n)) :=
  (pd_index (ns := ns.map Int.ofNat) (n := (n : Int)) (by rw [← mapN]; exact ho) ha (mem_ofNat.mpr hn) hbase hfew hline hs).is (by rw [idx_ofNat] <;> rfl)
theorem pd_sortSetN {ns : List Nat} (m : Nat) {p2 q2 : Pos} (hc : X.calm = true) (hm : X.mg "sorted" = none) (hm2 : X.mg "set" = none) (ha : PD X e ρ d) (hd : IsSeq d (ns.map dN)) (hz : ns.length ≤ 60) (hlt : ∀ x ∈ ns, x < m)
    (h1 : starEach (e :: []) X.env = (false, eval e X.env) :: starEach [] X.env := by rfl) (h2 : starEach (.Call (.Name "set" p2) [e] [] q2 :: []) X.env = (false, eval (.Call (.Name "set" p2) [e] [] q2) X.env) :: starEach [] X.env := by rfl) (hg : Gl X "sorted" := by rfl) (hg2 : Gl X "set" := by rfl) :
    PD X (.Call (.Name "sorted" p) [.Call (.Name "set" p2) [e] [] q2] [] pos) ρ (.list ((Nt.sd m ns).map dN)) :=
  (pd_sortSet (ns := ns.map Int.ofNat) ((Nt.sd m ns).map Int.ofNat) hc hm hm2 ha (by rw [← mapN]; exact hd) (by rw [List.length_map]; exact hz) (mapN_asc (Nt.sd_asc m ns)) (fun k => by
    rw [List.mem_map, List.mem_map]
    constructor
    · rintro ⟨x, hx, e⟩
      exact ⟨x, (Nt.mem_sd.mp hx).2, e⟩
    · rintro ⟨x, hx, e⟩
      exact ⟨x, Nt.mem_sd.mpr ⟨hlt x hx, hx⟩, e⟩) h1 h2 hg hg2).is (by rw [← mapN])
theorem pd_sortedN {ns : List Nat} (ms : List Nat) (hm : X.mg "sorted" = none) (ha : PD X e ρ (.list (ns.map dN))) (hl : ns.length < 64) (hp : ms.Perm ns) (hs : ms.Pairwise (· ≤ ·)) (h1 : starEach (e :: []) X.env = (false, eval e X.env) :: starEach [] X.env := by rfl) (hg : Gl X "sorted" := by rfl) : PD X (.Call (.Name "sorted" p) [e] [] pos) ρ (.list (ms.map dN)) :=
  (pd_sorted (ns := ns.map Int.ofNat) (ms.map Int.ofNat) hm (by rw [← mapN]; exact ha) (by rw [List.length_map]; exact hl) (hp.map _) (List.pairwise_map.mpr (hs.imp fun h => Int.ofNat_le.mpr h)) h1 hg).is (by rw [← mapN])
theorem pd_lenN (hm : X.mg "len" = none) {n : Nat} (ha : PD X e ρ d) (hs : IsSeq d ds) (hn : ds.length = n) (h1 : starEach (e :: []) X.env = (false, eval e X.env) :: starEach [] X.env := by rfl) (hg : Gl X "len" := by rfl) : PD X (.Call (.Name "len" p) [e] [] pos) ρ (dN n) := by
  subst hn
  exact pd_len hm ha hs h1 hg
theorem pd_intBN (hm : X.mg "int" = none) {k : Bool} (ha : PD X e ρ (.bool k)) (h1 : starEach (e :: []) X.env = (false, eval e X.env) :: starEach [] X.env := by rfl) (hg : Gl X "int" := by rfl) : PD X (.Call (.Name "int" p) [e] [] pos) ρ (dN k.toNat) :=
  (pd_intB hm ha h1 hg).is (by cases k <;> rfl)
end
end Dc
namespace Dc
open PySem PySem.Spec PyProof.Rows L2
section
variable {X : Cx} {ρ : Env} {e a b c : Expr} {es : List Expr} {d d1 d2 : PyData} {ds ds1 es' : List PyData} {pos p : Pos}
theorem pd_allM {α : Type} {l : List α} {f : α → Bool} (hc : X.calm = true) (hm : X.mg "all" = none) (ha : PD X e ρ (.list (l.map fun a => .bool (f a)))) (h1 : starEach (e :: []) X.env = (false, eval e X.env) :: starEach [] X.env := by rfl) (hg : Gl X "all" := by rfl) : PD X (.Call (.Name "all" p) [e] [] pos) ρ (.bool (l.all f)) :=
  (pd_all hc hm (bs := l.map f) (ha.is (by rw [List.map_map]; rfl)) h1 hg).is (by rw [List.all_map]; rfl)
theorem pd_anyM {α : Type} {l : List α} {f : α → Bool} (hc : X.calm = true) (hm : X.mg "any" = none) (ha : PD X e ρ (.list (l.map fun a => .bool (f a)))) (h1 : starEach (e :: []) X.env = (false, eval e X.env) :: starEach [] X.env := by rfl) (hg : Gl X "any" := by rfl) : PD X (.Call (.Name "any" p) [e] [] pos) ρ (.bool (l.any f)) :=
  (pd_any hc hm (bs := l.map f) (ha.is (by rw [List.map_map]; rfl)) h1 hg).is (by rw [List.any_map]; rfl)
end
/-- what is not bound by the module -/
structure Mg (mg : Str → Option Value) : Prop where
  len : mg "len" = none
  isinstance : mg "isinstance" = none
  int : mg "int" = none
  bool : mg "bool" = none
  tuple : mg "tuple" = none
  list : mg "list" = none
  set : mg "set" = none
  sorted : mg "sorted" = none
  all : mg "all" = none
  any : mg "any" = none
  enumerate : mg "enumerate" = none
  range : mg "range" = none
  dict : mg "dict" = none
  str : mg "str" = none
  most_inputs : ∃ t, mg "MOST_INPUTS" = some (.int 3 t)
  most_gates : ∃ t, mg "MOST_GATES" = some (.int 8 t)
end Dc
end

section
set_option maxHeartbeats 4000000
namespace Dc
open PySem PySem.Spec PyProof.Rows L2
section
variable {X : Cx} {ρ ρ1 ρ2 : Env} {e a b c : Expr} {es : List Expr} {d d1 d2 : PyData} {ds ds1 es' : List PyData} {pos p : Pos} {s : Stmt} {r : List Stmt}
theorem pd_lcA {α : Type} {l : List α} {enc : α → PyData} {g : α → PyData} (j : Nat) {x : Str} {px : Pos} {elt iter : Expr} {scope : Scope} (hN : X.N.Nodup) (hi : PID X (.Name x px) iter ρ ds) (hds : ds = l.map enc)
    (he : ∀ a ∈ l, ∀ (s : Shared) (H : Hp) (C : Addr) (cl : List (Str × Addr)) (fp : List Addr), PD (X.blk s H scope (compEnvC scope cl C X.env) fp) elt (ρ.set j (.dat (enc a))) (g a))
    (hz : l.length < 100000 := by omega) (hc : X.calm = true := by rfl) (ok : BlkOk X.N X.env.scope scope [(x, j)] := by exact blkOk_by (by kernel_rfl)) (hij : X.N[j]? = some x := by rfl) (hl : ∀ (s : Shared) (H : Hp) (C : Addr) (cl : List (Str × Addr)) (fp : List Addr), Loc (X.blk s H scope (compEnvC scope cl C X.env) fp).env.scope x := by intro _ _ _ _ _; first | exact Or.inl rfl | exact Or.inr rfl)
    (hf : ∀ (s : Shared) (H : Hp) (C : Addr) (cl : List (Str × Addr)) (fp : List Addr), (X.blk s H scope (compEnvC scope cl C X.env) fp).fn x = true ∨ (X.blk s H scope (compEnvC scope cl C X.env) fp).env.scope.names.lookup x = some .local := by intro _ _ _ _ _; first | exact .inl rfl | exact .inr rfl)
    (hj : j < ρ.length := by exact Nat.le_of_ble_eq_true rfl) (hs : ∀ x, foldedSetIterable iter X.env x = pure x := by intro _; rfl) : PD X (.ListComp elt [⟨.Name x px, iter, [], 0⟩] scope pos) ρ (.list (l.map g)) :=
  pd_lcAll l enc g j hc hN hi hds ok (fun s H C cl fp => pg_name hN hij (hl s H C cl fp) (hf s H C cl fp)) he hj hz hs
theorem pd_lcF {α : Type} {l : List α} {enc : α → PyData} {f : α → Bool} {g : α → PyData} (j : Nat) {x : Str} {px : Pos} {elt iter c : Expr} {scope : Scope} (hN : X.N.Nodup) (hi : PID X (.Name x px) iter ρ ds) (hds : ds = l.map enc)
    (ht : ∀ a ∈ l, ∀ (s : Shared) (H : Hp) (C : Addr) (cl : List (Str × Addr)) (fp : List Addr), PTD (X.blk s H scope (compEnvC scope cl C X.env) fp) c (ρ.set j (.dat (enc a))) (f a))
    (he : ∀ a ∈ l, f a = true → ∀ (s : Shared) (H : Hp) (C : Addr) (cl : List (Str × Addr)) (fp : List Addr), PD (X.blk s H scope (compEnvC scope cl C X.env) fp) elt (ρ.set j (.dat (enc a))) (g a))
    (hz : l.length < 100000 := by omega) (hc : X.calm = true := by rfl) (ok : BlkOk X.N X.env.scope scope [(x, j)] := by exact blkOk_by (by kernel_rfl)) (hij : X.N[j]? = some x := by rfl) (hl : ∀ (s : Shared) (H : Hp) (C : Addr) (cl : List (Str × Addr)) (fp : List Addr), Loc (X.blk s H scope (compEnvC scope cl C X.env) fp).env.scope x := by intro _ _ _ _ _; first | exact Or.inl rfl | exact Or.inr rfl)
    (hf : ∀ (s : Shared) (H : Hp) (C : Addr) (cl : List (Str × Addr)) (fp : List Addr), (X.blk s H scope (compEnvC scope cl C X.env) fp).fn x = true ∨ (X.blk s H scope (compEnvC scope cl C X.env) fp).env.scope.names.lookup x = some .local := by intro _ _ _ _ _; first | exact .inl rfl | exact .inr rfl)
    (hj : j < ρ.length := by exact Nat.le_of_ble_eq_true rfl) (hs : ∀ x, foldedSetIterable iter X.env x = pure x := by intro _; rfl) : PD X (.ListComp elt [⟨.Name x px, iter, [c], 0⟩] scope pos) ρ (.list ((l.filter f).map g)) :=
  pd_lc l enc f g j hc hN hi hds ok (fun s H C cl fp => pg_name hN hij (hl s H C cl fp) (hf s H C cl fp)) (fun a ha s H C cl fp => ptsd_one (ht a ha s H C cl fp)) he hj hz hs
theorem sn_lcA {α : Type} (k : Nat) {y : Str} {py : Pos} (l : List α) (enc : α → PyData) (g : α → PyData) (j : Nat) {x : Str} {px spos : Pos} {elt iter : Expr} {scope : Scope} (hN : X.N.Nodup) (hi : PID X (.Name x px) iter ρ ds) (hds : ds = l.map enc)
    (he : ∀ a ∈ l, ∀ (s : Shared) (H : Hp) (C : Addr) (cl : List (Str × Addr)) (fp : List Addr), PD (X.blk s H scope (compEnvC scope cl C X.env) fp) elt (ρ.set j (.dat (enc a))) (g a))
    (hz : l.length < 100000 := by omega) (hc : X.calm = true := by rfl) (ok : BlkOk X.N X.env.scope scope [(x, j)] := by exact blkOk_by (by kernel_rfl)) (hij : X.N[j]? = some x := by rfl) (hl : ∀ (s : Shared) (H : Hp) (C : Addr) (cl : List (Str × Addr)) (fp : List Addr), Loc (X.blk s H scope (compEnvC scope cl C X.env) fp).env.scope x := by intro _ _ _ _ _; first | exact Or.inl rfl | exact Or.inr rfl)
    (hf : ∀ (s : Shared) (H : Hp) (C : Addr) (cl : List (Str × Addr)) (fp : List Addr), (X.blk s H scope (compEnvC scope cl C X.env) fp).fn x = true ∨ (X.blk s H scope (compEnvC scope cl C X.env) fp).env.scope.names.lookup x = some .local := by intro _ _ _ _ _; first | exact .inl rfl | exact .inr rfl)
    (hj : j < ρ.length := by exact Nat.le_of_ble_eq_true rfl) (hk : k < ρ.length := by exact Nat.le_of_ble_eq_true rfl) (hy : X.N[k]? = some y := by rfl) (hyl : X.env.scope.names.lookup y = some .local := by rfl)
    (hsw : swapsWith (.ListComp elt [⟨.Name x px, iter, [], 0⟩] scope pos) (some (.Name y py)) spos.line X.env = pure true := by exact sw_true rfl rfl rfl (by decide +kernel)) (hs : ∀ x, foldedSetIterable iter X.env x = pure x := by intro _; rfl) :
    SN1 X (.Assign [.Name y py] (.ListComp elt [⟨.Name x px, iter, [], 0⟩] scope pos) spos) ρ (ρ.set k (.dat (.list (l.map g)))) :=
  SN1.is (sn_setLc k l enc (fun _ => true) g j hc hN hi hds ok (fun s H C cl fp => pg_name hN hij (hl s H C cl fp) (hf s H C cl fp)) (fun _ _ _ _ _ _ _ => ptsd_nil) (fun a ha _ => he a ha) hj hk hz hy hyl hsw hs) (by rw [List.filter_eq_self.mpr fun _ _ => rfl])
theorem sn_lcF {α : Type} (k : Nat) {y : Str} {py : Pos} (l : List α) (enc : α → PyData) (f : α → Bool) (g : α → PyData) (j : Nat) {x : Str} {px spos : Pos} {elt iter c : Expr} {scope : Scope} (hN : X.N.Nodup) (hi : PID X (.Name x px) iter ρ ds) (hds : ds = l.map enc)
    (ht : ∀ a ∈ l, ∀ (s : Shared) (H : Hp) (C : Addr) (cl : List (Str × Addr)) (fp : List Addr), PTD (X.blk s H scope (compEnvC scope cl C X.env) fp) c (ρ.set j (.dat (enc a))) (f a))
    (he : ∀ a ∈ l, f a = true → ∀ (s : Shared) (H : Hp) (C : Addr) (cl : List (Str × Addr)) (fp : List Addr), PD (X.blk s H scope (compEnvC scope cl C X.env) fp) elt (ρ.set j (.dat (enc a))) (g a))
    (hz : l.length < 100000 := by omega) (hc : X.calm = true := by rfl) (ok : BlkOk X.N X.env.scope scope [(x, j)] := by exact blkOk_by (by kernel_rfl)) (hij : X.N[j]? = some x := by rfl) (hl : ∀ (s : Shared) (H : Hp) (C : Addr) (cl : List (Str × Addr)) (fp : List Addr), Loc (X.blk s H scope (compEnvC scope cl C X.env) fp).env.scope x := by intro _ _ _ _ _; first | exact Or.inl rfl | exact Or.inr rfl)
    (hf : ∀ (s : Shared) (H : Hp) (C : Addr) (cl : List (Str × Addr)) (fp : List Addr), (X.blk s H scope (compEnvC scope cl C X.env) fp).fn x = true ∨ (X.blk s H scope (compEnvC scope cl C X.env) fp).env.scope.names.lookup x = some .local := by intro _ _ _ _ _; first | exact .inl rfl | exact .inr rfl)
    (hj : j < ρ.length := by exact Nat.le_of_ble_eq_true rfl) (hk : k < ρ.length := by exact Nat.le_of_ble_eq_true rfl) (hy : X.N[k]? = some y := by rfl) (hyl : X.env.scope.names.lookup y = some .local := by rfl)
    (hsw : swapsWith (.ListComp elt [⟨.Name x px, iter, [c], 0⟩] scope pos) (some (.Name y py)) spos.line X.env = pure true := by exact sw_true rfl rfl rfl (by decide +kernel)) (hs : ∀ x, foldedSetIterable iter X.env x = pure x := by intro _; rfl) :
    SN1 X (.Assign [.Name y py] (.ListComp elt [⟨.Name x px, iter, [c], 0⟩] scope pos) spos) ρ (ρ.set k (.dat (.list ((l.filter f).map g)))) :=
  sn_setLc k l enc f g j hc hN hi hds ok (fun s H C cl fp => pg_name hN hij (hl s H C cl fp) (hf s H C cl fp)) (fun a ha s H C cl fp => ptsd_one (ht a ha s H C cl fp)) he hj hk hz hy hyl hsw hs
/-! ### two fors -/
theorem Sok.off {H0 B H : Hp} {σ : L2.St} (x : Sok H0 B H σ ρ) {k : Nat} {v : Option V} (hk : ρ[k]? = some .no) : Sok H0 B H (σ.set k v) ρ := by
  have nk : ∀ (i : Nat) (t : Sl), ρ[i]? = some t → t ≠ .no → i ≠ k := fun i t ht hne c => by
    rw [c, hk] at ht
    exact hne (Option.some.inj ht).symm
  refine ⟨by rw [List.length_set]; exact x.len, fun i s hs => ?_, fun i j s t l hne hs ht os ot h1 => ?_⟩
  · by_cases c : s = .no
    · rw [c]; trivial
    · rw [List.getElem?_set_ne (Ne.symm (nk i s hs c))]
      exact x.slot i s hs
  · have h2 := nk i s hs fun z => by
      rw [z] at os; cases os
    have h3 := nk j t ht fun z => by
      rw [z] at ot; cases ot
    rw [List.getElem?_set_ne (Ne.symm h2)] at h1
    rw [List.getElem?_set_ne (Ne.symm h3)]
    exact x.apart i j s t l hne hs ht os ot h1
theorem tlc2 {α β : Type} {l : List α} {m : List β} {enc : α → PyData} {enc2 : β → PyData} {g : α → β → PyData} {ds2 : List PyData} {j k : Nat} (hds : ds = l.map enc) (hds2 : ds2 = m.map enc2) (hj : j < ρ.length) (hk : k < ρ.length) (hjk : j ≠ k) (hkn : ρ[k]? = some .no) (hz : (l.length + 1) * (m.length + 1) < 100000) : ∀ σ H Q, tD ρ (.list (l.flatMap fun a => m.map (g a))) σ H Q →
    tLc2 (tDI ρ ds) (gName j) (fun σ H Q => Q true H) (fun σ H R => ∃ a : {a // a ∈ l}, tDI (ρ.set j (.dat (enc a.1))) ds2 σ H R) (gName k) (fun σ H Q => Q true H) (fun σ H Q => ∃ a : {p : α × β // p.1 ∈ l ∧ p.2 ∈ m}, tD ((ρ.set j (.dat (enc a.1.1))).set k (.dat (enc2 a.1.2))) (g a.1.1 a.1.2) σ H Q) [j, k] [k] σ H Q := fun σ H Q ⟨H0, B, e, so, q⟩ => by
  refine ⟨H0, B, e, so, fun J B1 H1 g1 hJ D hD => ?_⟩
  subst hds hds2
  have hB1 : B1 D = none := g1.sub.free hD
  have lenTake : ∀ i, ((l.take i).flatMap fun a => m.map (g a)).length ≤ l.length * m.length := fun i => by
    rw [List.length_flatMap]
    have : ∀ l' : List α, (l'.map fun a => (m.map (g a)).length).sum = l'.length * m.length := fun l' => by
      induction l' with
      | nil => simp
      | cons x r ih => rw [List.map_cons, List.sum_cons, ih, List.length_map, List.length_cons, Nat.succ_mul, Nat.add_comm]
    rw [this]
    exact Nat.mul_le_mul_right _ (by rw [List.length_take]; omega)
  have e0 : (l.length + 1) * (m.length + 1) = l.length * m.length + l.length + m.length + 1 := by rw [Nat.succ_mul, Nat.mul_succ]; omega
  refine ⟨fun i n H' => ∃ B', i + n = l.length ∧ Grow B1 H1 B' H' ∧ B' D = none ∧ ∃ acc, H' D = some (.lst acc) ∧ DdAll B' acc ((l.take i).flatMap fun a => m.map (g a)), ⟨l.length, B1, by omega, .aside g1.sub hD, hB1, [], upd_same, .nil⟩, fun i n H' ⟨B', em, g2, hBD, acc, hacc, hdd⟩ => ?_⟩
  by_cases hi : i < l.length
  · refine .inr ⟨hJ.1 i H' (g2.bb.trans g2.sub) (by rw [List.length_map]; exact hi), fun H'' => ∃ B', (i + 1) + (n - 1) = l.length ∧ Grow B1 H1 B' H'' ∧ B' D = none ∧ ∃ acc, H'' D = some (.lst acc) ∧ DdAll B' acc ((l.take (i + 1)).flatMap fun a => m.map (g a)), fun H'' h => ⟨n - 1, by omega, h⟩, fun x H2 hy => ?_⟩
    have ha : l[i]? = some l[i] := List.getElem?_eq_getElem hi
    obtain ⟨B2, g3, hx⟩ := hJ.2.2 i B' H' x H2 (enc l[i]) g2.bb g2.sub hy (by rw [List.getElem?_map, ha] <;> rfl)
    have w1 : wipe σ [j, k] = (σ.set k none).set j none := rfl
    show wipe ((wipe σ [j, k]).set j (some x)) [j, k] = wipe σ [j, k] ∧ _
    have wa : (wipe σ [j, k]).set j (some x) = (σ.set k none).set j (some x) := by rw [w1, List.set_set]
    have wb : wipe ((wipe σ [j, k]).set j (some x)) [j, k] = wipe σ [j, k] := by
      rw [wa, w1]
      show (((σ.set k none).set j (some x)).set k none).set j none = _
      rw [List.set_comm _ _ hjk, List.set_set, List.set_set]
    refine ⟨wb, ?_⟩
    rw [wa]
    show (if true = true then _ else _)
    rw [if_pos rfl]
    have so1 : Sok H0 B2 H2 ((σ.set k none).set j (some x)) (ρ.set j (.dat (enc l[i]))) := ((((so.grow g1).grow g2).grow g3).off hkn).setDat hx hj
    refine ⟨⟨l[i], List.getElem_mem hi⟩, H0, B2, g3.sub, so1, fun J1 B3 H3 g4 hJ1 => ?_⟩
    have hBD3 : B3 D = none := sep_of (g3.trans g4) hacc hBD
    refine ⟨fun jj n' H'' => ∃ B', jj + n' = m.length ∧ Grow B1 H1 B' H'' ∧ Same B3 B' ∧ B' D = none ∧ ∃ acc, H'' D = some (.lst acc) ∧ DdAll B' acc (((l.take i).flatMap fun a => m.map (g a)) ++ (m.take jj).map (g l[i])),
      ⟨m.length, B3, by omega, g2.trans (g3.trans g4), .refl B3, hBD3, acc, (g3.trans g4).ext _ _ hacc, by rw [List.take_zero, List.map_nil, List.append_nil]; exact hdd.mono (g3.trans g4).bb⟩, fun jj n' H'' ⟨B', em', g5, e5, hBD5, acc', hacc', hdd'⟩ => ?_⟩
    by_cases hjj : jj < m.length
    · refine .inr ⟨hJ1.1 jj H'' (e5.trans g5.sub) (by rw [List.length_map]; exact hjj), fun Hn => ∃ B', (jj + 1) + (n' - 1) = m.length ∧ Grow B1 H1 B' Hn ∧ Same B3 B' ∧ B' D = none ∧ ∃ acc, Hn D = some (.lst acc) ∧ DdAll B' acc (((l.take i).flatMap fun a => m.map (g a)) ++ (m.take (jj + 1)).map (g l[i])), fun Hn h => ⟨n' - 1, by omega, h⟩, fun x' H6 hy' => ?_⟩
      have hb : m[jj]? = some m[jj] := List.getElem?_eq_getElem hjj
      obtain ⟨B6, g6, hx'⟩ := hJ1.2.2 jj B' H'' x' H6 (enc2 m[jj]) e5 g5.sub hy' (by rw [List.getElem?_map, hb] <;> rfl)
      show wipe ((wipe ((σ.set k none).set j (some x)) [k]).set k (some x')) [k] = wipe ((σ.set k none).set j (some x)) [k] ∧ _
      have wc : (wipe ((σ.set k none).set j (some x)) [k]).set k (some x') = ((σ.set k none).set j (some x)).set k (some x') := by rw [wipe_one, List.set_set]
      rw [wc]
      refine ⟨by rw [wipe_one, wipe_one, List.set_set], ?_⟩
      show (if true = true then _ else _)
      rw [if_pos rfl]
      have e26 : Same B2 B6 := (g4.bb.trans e5).trans g6.bb
      have so6 := ((((so.grow g1).grow g5).grow g6).off (v := none) hkn).setDat (hx.mono e26) hj |>.setDat hx' (by rw [List.length_set]; exact hk)
      refine ⟨⟨(l[i], m[jj]), List.getElem_mem hi, List.getElem_mem hjj⟩, H0, B6, g6.sub, so6, fun y B7 H7 g7 hy7 => ⟨acc', (g6.trans g7).ext _ _ hacc', ?_, ?_⟩⟩
      · rw [hdd'.length, List.length_append, List.length_map, List.length_take]
        exact szl (by
          have := lenTake i
          omega)
      · have hB7 : B7 D = none := sep_of (g6.trans g7) hacc' hBD5
        refine ⟨B7, by omega, (g5.trans (g6.trans g7)).mut hD hB7, (e5.trans g6.bb).trans g7.bb, hB7, acc' ++ [y], upd_same, ?_⟩
        rw [List.take_add_one, hb, List.map_append, ← List.append_assoc]
        exact (hdd'.mono (g6.trans g7).bb).append (.cons hy7 .nil)
    · have ej : jj = m.length := by omega
      refine .inl ⟨?_, B', by omega, g5, hBD5, acc', hacc', ?_⟩
      · have := hJ1.2.1 H'' (e5.trans g5.sub)
        rw [List.length_map] at this
        rw [ej]
        exact this
      · rw [ej, List.take_length] at hdd'
        rw [List.take_add_one, ha, List.flatMap_append]
        have ee : ((some l[i]).toList.flatMap fun a => m.map (g a)) = m.map (g l[i]) := by
          show (m.map (g l[i])) ++ [] = _
          rw [List.append_nil]
        rw [ee]
        exact hdd'
  · have ei : i = l.length := by omega
    refine .inl ⟨?_, ?_⟩
    · have := hJ.2.1 H' (g2.bb.trans g2.sub)
      rw [List.length_map] at this
      rw [ei]
      exact this
    · rw [ei, List.take_length] at hdd
      exact q _ _ _ (g1.trans (g2.adopt hD hBD hacc)) (.lst upd_same (hdd.mono (fun b u e => by rw [upd_ne (ne_of_none e hBD)]; exact e)))
theorem sn_lc2 {α β : Type} (i : Nat) {y : Str} {py : Pos} (l : List α) (m : List β) (enc : α → PyData) (enc2 : β → PyData) (g : α → β → PyData) (j k : Nat) {ds2 : List PyData} {x z : Str} {px pz spos : Pos} {elt iter iter1 : Expr} {scope : Scope} (hN : X.N.Nodup) (hi : PID X (.Name x px) iter ρ ds) (hds : ds = l.map enc) (hds2 : ds2 = m.map enc2)
    (hi1 : ∀ a ∈ l, ∀ (s : Shared) (H : Hp) (C : Addr) (cl : List (Str × Addr)) (fp : List Addr), PID (X.blk s H scope (compEnvC scope cl C X.env) fp) (.Name z pz) iter1 (ρ.set j (.dat (enc a))) ds2)
    (he : ∀ a ∈ l, ∀ b ∈ m, ∀ (s : Shared) (H : Hp) (C : Addr) (cl : List (Str × Addr)) (fp : List Addr), PD (X.blk s H scope (compEnvC scope cl C X.env) fp) elt ((ρ.set j (.dat (enc a))).set k (.dat (enc2 b))) (g a b))
    (hz : (l.length + 1) * (m.length + 1) < 100000) (hkn : ρ[k]? = some .no := by rfl) (hjk : j ≠ k := by decide) (hc : X.calm = true := by rfl) (ok : BlkOk X.N X.env.scope scope [(x, j), (z, k)] := by exact blkOk_by (by kernel_rfl)) (hij : X.N[j]? = some x := by rfl) (hik : X.N[k]? = some z := by rfl)
    (hl : ∀ (s : Shared) (H : Hp) (C : Addr) (cl : List (Str × Addr)) (fp : List Addr), Loc (X.blk s H scope (compEnvC scope cl C X.env) fp).env.scope x := by intro _ _ _ _ _; first | exact Or.inl rfl | exact Or.inr rfl)
    (hl2 : ∀ (s : Shared) (H : Hp) (C : Addr) (cl : List (Str × Addr)) (fp : List Addr), Loc (X.blk s H scope (compEnvC scope cl C X.env) fp).env.scope z := by intro _ _ _ _ _; first | exact Or.inl rfl | exact Or.inr rfl)
    (hf : ∀ (s : Shared) (H : Hp) (C : Addr) (cl : List (Str × Addr)) (fp : List Addr), (X.blk s H scope (compEnvC scope cl C X.env) fp).fn x = true ∨ (X.blk s H scope (compEnvC scope cl C X.env) fp).env.scope.names.lookup x = some .local := by intro _ _ _ _ _; first | exact .inl rfl | exact .inr rfl)
    (hf2 : ∀ (s : Shared) (H : Hp) (C : Addr) (cl : List (Str × Addr)) (fp : List Addr), (X.blk s H scope (compEnvC scope cl C X.env) fp).fn z = true ∨ (X.blk s H scope (compEnvC scope cl C X.env) fp).env.scope.names.lookup z = some .local := by intro _ _ _ _ _; first | exact .inl rfl | exact .inr rfl)
    (hj : j < ρ.length := by exact Nat.le_of_ble_eq_true rfl) (hk : k < ρ.length := by exact Nat.le_of_ble_eq_true rfl) (hil : i < ρ.length := by exact Nat.le_of_ble_eq_true rfl) (hy : X.N[i]? = some y := by rfl) (hyl : X.env.scope.names.lookup y = some .local := by rfl)
    (hsw : swapsWith (.ListComp elt [⟨.Name x px, iter, [], 0⟩, ⟨.Name z pz, iter1, [], 0⟩] scope pos) (some (.Name y py)) spos.line X.env = pure true := by exact sw_true rfl rfl rfl (by decide +kernel)) (hs : ∀ x, foldedSetIterable iter X.env x = pure x := by intro _; rfl) (hs1 : ∀ env x, foldedSetIterable iter1 env x = pure x := by intro _ _; rfl) :
    SN1 X (.Assign [.Name y py] (.ListComp elt [⟨.Name x px, iter, [], 0⟩, ⟨.Name z pz, iter1, [], 0⟩] scope pos) spos) ρ (ρ.set i (.dat (.list (l.flatMap fun a => m.map (g a))))) :=
  ps_mono (ps_setLc2 (own := [(x, j), (z, k)]) (vs1 := [k]) hc hN hy hyl hsw hi ok (fun i hi => List.mem_cons_of_mem _ hi) (fun s H C cl fp => pg_name hN hij (hl s H C cl fp) (hf s H C cl fp)) (fun _ _ _ _ _ => pts_nil) (fun s H C cl fp => pi_ex fun a => hi1 a.1 a.2 s H C cl fp) (fun s H C cl fp => pg_name hN hik (hl2 s H C cl fp) (hf2 s H C cl fp)) (fun _ _ _ _ _ => pts_nil)
    (fun s H C cl fp => pe_ex fun a => he a.1.1 a.2.1 a.1.2 a.2.2 s H C cl fp) hs hs1) fun D σ H ⟨B0, H0, B, g', so, kk⟩ =>
    tlc2 hds hds2 hj hk hjk hkn hz σ H _ ⟨H0, B, g'.sub, so, fun v B' H' g2 hv => kk _ B' H' (g'.trans g2) g2.bb ((so.grow g2).setDat hv hil)⟩
end
end Dc
end

section
set_option maxHeartbeats 4000000
namespace Wk
open PySem PySem.Spec PyProof.Rows L2 Dc Tx
section
variable {P : Program} {w : World} {K : PySem.W.Frag} {mg : Str → Option Value} {base : Heap} {f : Addr} {fd : FuncData}
/-- is_integer(value) -/
def RIsInt : List PyData → PyData → Prop := fun ds d => ∃ i, ds = [.int i] ∧ d = .bool true
theorem w_is_integer (M : Mg mg) (F : FnP K "is_integer" s_is_integer f fd) : FnOk P w K mg base CX0 1 f fd ["value"] (spD RIsInt) :=
  def_R F sc_is_integer RIsInt 0 rfl (by rintro ds d ⟨i, rfl, rfl⟩; rfl) (by
    rintro cdv A outer s H E ds d hr ⟨i, rfl, rfl⟩
    apply SR.is
    · exact sr_last (sr_ret (pd_and (pd_isi M.isinstance M.int PyProof.Rows.boot_int (pd_v 0) (by exact kb_ii)) fun _ => pd_one (pd_not (pd_isi M.isinstance M.bool PyProof.Rows.boot_bool (pd_v 0) (by exact kb_ib)))))
    · rfl)
def RIsIn : List PyData → PyData → Prop := fun ds d => ∃ v lo hi : Int, ds = [.int v, .int lo, .int hi] ∧ d = .bool (decide (lo ≤ v) && decide (v ≤ hi))
theorem w_is_in (M : Mg mg) (H1 : Has P w K mg base "is_integer" 1 ["value"] (spD RIsInt)) (F : FnP K "is_in" s_is_in f fd) : FnOk P w K mg base CX0 2 f fd ["value", "least", "most"] (spD RIsIn) :=
  def_R F sc_is_in RIsIn 0 rfl (by rintro ds d ⟨v, lo, hi, rfl, rfl⟩; rfl) (by
    rintro cdv A outer s H E ds d hr ⟨v, lo, hi, rfl, rfl⟩
    apply SR.is
    · exact sr_last (sr_ret (pd_and (pd_call H1 hr (pds_one (pd_v 0)) ⟨v, rfl, rfl⟩) fun _ => pd_one (pd_chain op_le op_le (pd_v 1) (pd_v 0) (pd_v 2))))
    · rfl)
def RIsList : List PyData → PyData → Prop := fun ds d => ∃ (xs : List PyData) (lo hi : Int), ds = [.tuple xs, .int lo, .int hi] ∧ d = .bool (decide (lo ≤ (xs.length : Int)) && decide ((xs.length : Int) ≤ hi))
theorem w_is_list (M : Mg mg) (F : FnP K "is_list" s_is_list f fd) : FnOk P w K mg base CX0 1 f fd ["value", "least", "most"] (spD RIsList) :=
  def_R F sc_is_list RIsList 0 rfl (by rintro ds d ⟨v, lo, hi, rfl, rfl⟩; rfl) (by
    rintro cdv A outer s H E ds d hr ⟨xs, lo, hi, rfl, rfl⟩
    apply SR.is
    · exact sr_last (sr_ret (pd_and (pd_isi M.isinstance M.tuple PyProof.Rows.boot_tuple (pd_v 0) (by exact kb_tt)) fun _ => pd_one (pd_chain op_le op_le (pd_v 1) (pd_len M.len (pd_v 0) isTup) (pd_v 2))))
    · rfl)
def RSize : List PyData → PyData → Prop := fun ds d => ∃ N, ds = [dNet N] ∧ d = dN (Nt.size N)
theorem w_size_of (M : Mg mg) (F : FnP K "size_of" s_size_of f fd) : FnOk P w K mg base CX0 1 f fd ["net"] (spD RSize) :=
  def_R F sc_size_of RSize 0 rfl (by rintro ds d ⟨N, rfl, rfl⟩; rfl) (by
    rintro cdv A outer s H E ds d hr ⟨N, rfl, rfl⟩
    exact sr_last (sr_ret (pd_addN (pd_ixTN (pd_v 0) (pd_n 0) rfl) (pd_lenN M.len (pd_ixTN (pd_v 0) (pd_n 1) rfl) isTup (List.length_map ..)))))
def RFriends : List PyData → PyData → Prop := fun ds d => ∃ N p, p < Nt.size N ∧ ds = [dNet N, dN p] ∧ d = dT (Nt.fr N p)
theorem w_friends_in (M : Mg mg) (F : FnP K "friends_in" s_friends_in f fd) : FnOk P w K mg base CX0 1 f fd ["net", "person"] (spD RFriends) :=
  def_R F sc_friends_in RFriends 0 rfl (by rintro ds d ⟨N, p, hp, rfl, rfl⟩; rfl) (by
    rintro cdv A outer s H E ds d hr ⟨N, p, hp, rfl, rfl⟩
    refine sr_last (sr_ret (pd_if (ptd_geN (pd_v 1) (pd_ixTN (pd_v 0) (pd_n 0) rfl)) (fun h => ?_) (fun h => ?_)))
    · have h' := of_decide_eq_true h
      refine pd_ixTN (pd_ixTN (pd_v 0) (pd_n 1) rfl) (pd_subN (pd_v 1) (pd_ixTN (pd_v 0) (pd_n 0) rfl) h') ?_
      have hk : p - N.1 < N.2.length := by unfold Nt.size at hp; omega
      have e := Nt.fr_at hk
      rw [show N.1 + (p - N.1) = p by omega] at e
      rw [List.getElem?_map, List.getElem?_eq_getElem hk, e] <;> rfl
    · have h' := of_decide_eq_false h
      refine (pd_tup pds_nil).to ?_
      rw [Nt.fr_in (by omega)] <;> rfl)
end
end Wk
end

section
set_option maxHeartbeats 4000000
namespace Wk
open PySem PySem.Spec PyProof.Rows L2 Dc Tx
section
variable {P : Program} {w : World} {K : PySem.W.Frag} {mg : Str → Option Value} {base : Heap} {f : Addr} {fd : FuncData}
/-- one net, its things -/
theorem zip_at {α : Type} {l : List α} {i : Nat} {q : α × Nat} (h : l.zipIdx[i]? = some q) : q.2 = i ∧ l[i]? = some q.1 ∧ i < l.length := by
  rw [List.getElem?_zipIdx, Nat.zero_add] at h
  obtain ⟨a, ha, e⟩ := Option.map_eq_some_iff.mp h
  subst e
  exact ⟨rfl, ha, (List.getElem?_eq_some_iff.mp ha).1⟩
theorem sd_self {m : Nat} {l : List Nat} (h : l.Pairwise (· < ·)) (hm : ∀ x ∈ l, x < m) : Nt.sd m l = l := (Nt.sd_eq h hm fun x => Iff.rfl).symm
theorem eqv_L (a b : List Nat) : PyData.eqv (.list (a.map dN)) (.list (b.map dN)) = decide (a = b) := dT_eqv a b
theorem sh_L (l : List Nat) : Sh 1 (.list (l.map dN)) := sh_lst (sh_map fun k => sh_N k)
def RNeedNet : List PyData → PyData → Prop := fun ds d => ∃ N, Nt.Ok N ∧ ds = [dNet N] ∧ d = .none
theorem w_need_net (M : Mg mg) (H1 : Has P w K mg base "is_list" 1 ["value", "least", "most"] (spD RIsList)) (H2 : Has P w K mg base "is_in" 2 ["value", "least", "most"] (spD RIsIn)) (F : FnP K "need_net" s_need_net f fd) : FnOk P w K mg base CX0 3 f fd ["net"] (spD RNeedNet) :=
  def_N F sc_need_net RNeedNet 3 rfl (by rintro ds d ⟨N, ok, rfl, rfl⟩; exact ⟨rfl, rfl⟩) (by
    rintro cdv A outer s H E ds hr ⟨N, ok, rfl, _⟩
    obtain ⟨t1, m1⟩ := M.most_inputs
    obtain ⟨t2, m2⟩ := M.most_gates
    have lo := ok.lo
    have hi := ok.hi
    have few := ok.few
    refine ⟨[.dat (dNet N), .no, .no, .no], sn_cons (sn_unless (PTD.to (PW.pt (pwd_or (ptd_not (ptd_val (pd_call H1 hr (pds_cons (pd_v 0) (pds_cons pd_int (pds_one pd_int))) ⟨_, _, _, rfl, rfl⟩)))
      fun _ => pwd_or (ptd_not (ptd_val (pd_call H2 hr (pds_cons (pd_ixTN (pd_v 0) (pd_n 0) rfl) (pds_cons pd_int (pds_one (pd_globI m1)))) ⟨_, _, _, rfl, rfl⟩)))
      fun _ => pwd_or1 (ptd_not (ptd_val (pd_call H1 hr (pds_cons (pd_ixTN (pd_v 0) (pd_n 1) rfl) (pds_cons pd_int (pds_one (pd_globI m2)))) ⟨_, _, _, rfl, rfl⟩))))) ?_)) ?_⟩
    · have e1 : decide ((1 : Int) ≤ (N.1 : Int)) = true := decide_eq_true (by omega)
      have e2 : decide ((N.1 : Int) ≤ 3) = true := decide_eq_true (by omega)
      have e3 : decide ((0 : Int) ≤ ((N.2.map dT).length : Int)) = true := decide_eq_true (by omega)
      have e4 : decide (((N.2.map dT).length : Int) ≤ 8) = true := decide_eq_true (by rw [List.length_map]; omega)
      rw [e1, e2, e3, e4] <;> rfl
    · refine sn_one (sn_for N.2.zipIdx (fun q => .tuple [dN q.2, dT q.1]) (fun _ => [.dat (dNet N), .no, .no, .no]) (fun i => [.dat (dNet N), .dat (dN i), .dat (dT (N.2.getD i [])), .no]) PassesOwn.never rfl (pid_enumT M.enumerate (pd_ixTN (pd_v 0) (pd_n 1) rfl)) (by rw [List.zipIdx_map, List.map_map]; rfl) rfl (fun i q hq => ?_) (fun i q hq => ?_))
      · obtain ⟨e1, e2, e3⟩ := zip_at hq
        have e4 : N.2.getD i [] = q.1 := by rw [List.getD_eq_getElem?_getD, e2] <;> rfl
        rw [e4, ← e1]
        exact pgd_two 1 2 rfl sc_need_net.nd
      · obtain ⟨e1, e2, e3⟩ := zip_at hq
        have e4 : N.2.getD i [] = N.2[i] := by rw [List.getD_eq_getElem?_getD, List.getElem?_eq_getElem e3] <;> rfl
        rw [e4]
        have asc := ok.at_asc e3
        have less : ∀ o ∈ N.2[i], o < N.1 + i := fun o ho => ok.at_less e3 ho
        have hlen := Nt.asc_len asc less
        refine SN.is (sn_forget 1 (sn_forget 2 (sn_cons (sn_unless (PTD.to (PW.pt (pwd_or (ptd_not (ptd_val (pd_isi M.isinstance M.tuple PyProof.Rows.boot_tuple (pd_v 2) (by exact kb_tt))))
          fun _ => pwd_or1 (ptd_not (ptd_val (pd_allM rfl M.all (pd_lcA 3 sc_need_net.nd (pid_tup (pd_v 2)) rfl (fun o ho s H C cl fp => pd_call H2 hr (pds_cons (pd_v 3) (pds_cons pd_int (pds_one (pd_sub (pd_add (pd_ixTN (pd_v 0) (pd_n 0) rfl) (pd_v 1)) pd_int)))) ⟨_, _, _, rfl, rfl⟩))))))) ?_)) (sn_one (sn_unless (PTD.to (ptd_ne hr.units (pd_list M.list (pd_v 2) isTup) (pd_sortSetN (N.1 + i) rfl M.sorted M.set (pd_v 2) isTup ?_ less) (sh_L _).shaped (sh_L _).shaped) ?_)))))) rfl
        · have e : (N.2[i].all fun o => decide ((0 : Int) ≤ (o : Int)) && decide ((o : Int) ≤ ((N.1 : Int) + (i : Int)) - 1)) = true := List.all_eq_true.mpr fun o ho => by
            have := less o ho
            rw [decide_eq_true (show (0 : Int) ≤ (o : Int) by omega), decide_eq_true (show (o : Int) ≤ ((N.1 : Int) + (i : Int)) - 1 by omega)] <;> rfl
          rw [e] <;> rfl
        · omega
        · rw [sd_self asc less, eqv_L, decide_eq_true rfl] <;> rfl)
end
end Wk
end

section
set_option maxHeartbeats 4000000
namespace Wk
open PySem PySem.Spec PyProof.Rows L2 Dc Tx
section
variable {P : Program} {w : World} {K : PySem.W.Frag} {mg : Str → Option Value} {base : Heap} {f : Addr} {fd : FuncData}
theorem pid_seq {X : Cx} {ρ : Dc.Env} {e tg : Expr} {d : PyData} {ds : List PyData} (hl : PD X e ρ d) (hs : IsSeq d ds) : PID X tg e ρ ds := by
  rcases hs with z | z
  · subst z; exact pid_list hl
  · subst z; exact pid_tup hl
def RNeedPerson : List PyData → PyData → Prop := fun ds d => ∃ N p, p < Nt.size N ∧ ds = [dNet N, dN p] ∧ d = .none
theorem w_need_person (M : Mg mg) (H2 : Has P w K mg base "is_in" 2 ["value", "least", "most"] (spD RIsIn)) (H3 : Has P w K mg base "size_of" 1 ["net"] (spD RSize)) (F : FnP K "need_person" s_need_person f fd) : FnOk P w K mg base CX0 3 f fd ["net", "person"] (spD RNeedPerson) :=
  def_N F sc_need_person RNeedPerson 0 rfl (by rintro ds d ⟨N, p, hp, rfl, rfl⟩; exact ⟨rfl, rfl⟩) (by
    rintro cdv A outer s H E ds hr ⟨N, p, hp, rfl, _⟩
    refine ⟨_, sn_one (sn_unless (PTD.to (ptd_not (ptd_val (pd_call H2 hr (pds_cons (pd_v 1) (pds_cons pd_int (pds_one (pd_sub (pd_call H3 hr (pds_one (pd_v 0)) ⟨_, rfl, rfl⟩) pd_int)))) ⟨_, _, _, rfl, rfl⟩))) ?_))⟩
    rw [decide_eq_true (show (0 : Int) ≤ (p : Int) by omega), decide_eq_true (show (p : Int) ≤ ((Nt.size N : Nat) : Int) - 1 by omega)] <;> rfl)
def RNeedAns : List PyData → PyData → Prop := fun ds d => ∃ N as, Nt.Ok N ∧ Nt.Ans N as ∧ ds = [dNet N, dT as] ∧ d = .none
theorem w_need_answers (M : Mg mg) (H1 : Has P w K mg base "is_list" 1 ["value", "least", "most"] (spD RIsList)) (H2 : Has P w K mg base "is_in" 2 ["value", "least", "most"] (spD RIsIn)) (H3 : Has P w K mg base "size_of" 1 ["net"] (spD RSize)) (F : FnP K "need_answers" s_need_answers f fd) : FnOk P w K mg base CX0 3 f fd ["net", "answers"] (spD RNeedAns) :=
  def_N F sc_need_answers RNeedAns 1 rfl (by rintro ds d ⟨N, p, _, hp, rfl, rfl⟩; exact ⟨rfl, rfl⟩) (by
    rintro cdv A outer s H E ds hr ⟨N, as, ok, an, rfl, _⟩
    have h9 := ok.size
    have hlen := Nt.asc_len an.asc an.lt
    have hne : 1 ≤ as.length := by
      rcases as with _ | ⟨a, as⟩
      · exact absurd rfl an.ne
      · exact Nat.succ_le_succ (Nat.zero_le _)
    refine ⟨_, sn_cons (sn_unless (PTD.to (PW.pt (pwd_or (ptd_not (ptd_val (pd_call H1 hr (pds_cons (pd_v 1) (pds_cons pd_int (pds_one (pd_call H3 hr (pds_one (pd_v 0)) ⟨_, rfl, rfl⟩)))) ⟨_, _, _, rfl, rfl⟩)))
      fun _ => pwd_or1 (ptd_not (ptd_val (pd_allM rfl M.all (pd_lcA 2 sc_need_answers.nd (pid_tup (pd_v 1)) rfl (fun o ho s H C cl fp => pd_call H2 hr (pds_cons (pd_v 2) (pds_cons pd_int (pds_one (pd_sub (pd_call H3 hr (pds_one (pd_v 0)) ⟨_, rfl, rfl⟩) pd_int)))) ⟨_, _, _, rfl, rfl⟩))))))) ?_))
      (sn_one (sn_unless (PTD.to (ptd_ne hr.units (pd_list M.list (pd_v 1) isTup) (pd_sortSetN (Nt.size N) rfl M.sorted M.set (pd_v 1) isTup (by omega) an.lt) (sh_L _).shaped (sh_L _).shaped) ?_)))⟩
    · have e : (as.all fun o => decide ((0 : Int) ≤ (o : Int)) && decide ((o : Int) ≤ ((Nt.size N : Nat) : Int) - 1)) = true := List.all_eq_true.mpr fun o ho => by
        have := an.lt o ho
        rw [decide_eq_true (show (0 : Int) ≤ (o : Int) by omega), decide_eq_true (show (o : Int) ≤ ((Nt.size N : Nat) : Int) - 1 by omega)] <;> rfl
      rw [e, decide_eq_true (show (1 : Int) ≤ ((as.map dN).length : Int) by rw [List.length_map]; omega), decide_eq_true (show (((as.map dN).length : Nat) : Int) ≤ ((Nt.size N : Nat) : Int) by rw [List.length_map]; omega)] <;> rfl
    · rw [sd_self an.asc an.lt, eqv_L, decide_eq_true rfl] <;> rfl)
def RBits : List PyData → PyData → Prop := fun ds d => ∃ n, n ≤ 3 ∧ ds = [dN n] ∧ d = .list ((Nt.bits n).map dT)
theorem bits_small {i n : Nat} (hn : n ≤ 3) (hi : i ≤ n) : (Nt.bits i).length ≤ 8 := by
  rw [Nt.bits_count]
  have : i = 0 ∨ i = 1 ∨ i = 2 ∨ i = 3 := by omega
  rcases this with z | z | z | z <;> subst z <;> decide
theorem w_all_bits (M : Mg mg) (F : FnP K "all_bits" s_all_bits f fd) : FnOk P w K mg base CX0 1 f fd ["inputs"] (spD RBits) :=
  def_R F sc_all_bits RBits 4 rfl (by rintro ds d ⟨n, hn, rfl, rfl⟩; rfl) (by
    rintro cdv A outer s H E ds d hr ⟨n, hn, rfl, rfl⟩
    refine sr_cons (SN1.is (sn_set 1 sc_all_bits.nd (pd_lst (pds_one (pd_tup pds_nil)))) (ρ2 := [.dat (dN n), .dat (.list ((Nt.bits 0).map dT)), .no, .no, .no]) rfl) ?_
    refine sr_cons (SN1.is (sn_for (List.range n) dN (fun i => [.dat (dN n), .dat (.list ((Nt.bits i).map dT)), .no, .no, .no]) (fun i => [.dat (dN n), .dat (.list ((Nt.bits i).map dT)), .dat (dN i), .no, .no]) PassesOwn.never rfl (pid_range1 M.range (pd_v 0) (by omega)) rfl rfl (fun i a ha => ?_) (fun i a ha => ?_)) rfl) ?_
    · obtain ⟨hi, rfl⟩ : i < n ∧ a = i := by
        obtain ⟨h1, h2⟩ := List.getElem?_eq_some_iff.mp ha
        rw [List.length_range] at h1
        exact ⟨h1, by rw [← h2, List.getElem_range]⟩
      exact pgd_name 2 sc_all_bits.nd
    · obtain ⟨hi, rfl⟩ : i < n ∧ a = i := by
        obtain ⟨h1, h2⟩ := List.getElem?_eq_some_iff.mp ha
        rw [List.length_range] at h1
        exact ⟨h1, by rw [← h2, List.getElem_range]⟩
      have few := bits_small hn (Nat.le_of_lt hi)
      refine SN.is (sn_forget 2 (sn_one (sn_lc2 1 (Nt.bits a) [0, 1] dT dN (fun b x => dT (b ++ [x])) 3 4 sc_all_bits.nd (pid_list (pd_v 1)) rfl rfl ?_ ?_ ?_))) ?_
      · intro b hb s H C cl fp
        exact pid_tup (pd_tup (pds_cons (pd_n 0) (pds_one (pd_n 1))))
      · intro b hb x hx s H C cl fp
        have hl := Nt.bits_len hb
        exact PD.to (pd_tup (pds_star (pd_v 3) (.inl rfl) (pds_one (pd_v 4))) (by rw [List.length_append, List.length_map, hl]; show a + 1 ≤ 100000; omega)) (by unfold dT; rw [List.map_append] <;> rfl)
      · show ((Nt.bits a).length + 1) * 3 < 100000
        omega
      · have e : ((Nt.bits a).flatMap fun b => [0, 1].map fun x => dT (b ++ [x])) = (Nt.bits (a + 1)).map dT := by
          show _ = List.map dT ((Nt.bits a).flatMap fun b => _)
          rw [List.map_flatMap] <;> rfl
        rw [e] <;> rfl
    · rw [List.length_range]
      exact sr_last (sr_ret (pd_v 1)))
end
end Wk
end

section
set_option maxHeartbeats 4000000
namespace Wk
open PySem PySem.Spec PyProof.Rows L2 Dc Tx
section
variable {P : Program} {w : World} {K : PySem.W.Frag} {mg : Str → Option Value} {base : Heap} {f : Addr} {fd : FuncData}
theorem getD_map {l : List Nat} {i : Nat} (h : i < l.length) : (l.map dN)[i]? = some (dN (l.getD i 0)) := by
  rw [List.getElem?_map, List.getElem?_eq_getElem h, List.getD_eq_getElem?_getD, List.getElem?_eq_getElem h] <;> rfl
theorem getD_mapT {l : List (List Nat)} {i : Nat} (h : i < l.length) : (l.map dT)[i]? = some (dT (l.getD i [])) := by
  rw [List.getElem?_map, List.getElem?_eq_getElem h, List.getD_eq_getElem?_getD, List.getElem?_eq_getElem h] <;> rfl
theorem stand_take {gs : List (List Nat)} {b : List Nat} {i : Nat} (h : i < gs.length) : Nt.stand (gs.take (i + 1)) b = Nt.stand (gs.take i) b ++ [Nt.tell (Nt.stand (gs.take i) b) gs[i]] := by
  rw [List.take_add_one, List.getElem?_eq_getElem h]
  exact Nt.stand_append _ _ _
def RStand : List PyData → PyData → Prop := fun ds d => ∃ N b, Nt.Ok N ∧ b.length = N.1 ∧ ds = [dNet N, dT b] ∧ d = dT (Nt.stand N.2 b)
theorem w_standing_in (M : Mg mg) (F : FnP K "standing_in" s_standing_in f fd) : FnOk P w K mg base CX0 1 f fd ["net", "bits"] (spD RStand) :=
  def_R F sc_standing_in RStand 3 rfl (by rintro ds d ⟨N, b, _, _, rfl, rfl⟩; rfl) (by
    rintro cdv A outer s H E ds d hr ⟨N, b, ok, hb, rfl, rfl⟩
    have few := ok.few
    have hi := ok.hi
    refine sr_cons (sn_setList 2 M.list sc_standing_in.nd (pd_v 1) isTup) ?_
    refine sr_cons (SN1.is (sn_for N.2 dT (fun i => [.dat (dNet N), .dat (dT b), .lst ((Nt.stand (N.2.take i) b).map dN), .no, .no]) (fun i => [.dat (dNet N), .dat (dT b), .lst ((Nt.stand (N.2.take i) b).map dN), .dat (dT (N.2.getD i [])), .no]) PassesOwn.never rfl (pid_tup (pd_ixTN (pd_v 0) (pd_n 1) rfl)) rfl rfl (fun i a ha => ?_) (fun i a ha => ?_)) rfl) ?_
    · have e4 : N.2.getD i [] = a := by rw [List.getD_eq_getElem?_getD, ha] <;> rfl
      rw [e4]
      exact pgd_name 3 sc_standing_in.nd
    · have hil := (List.getElem?_eq_some_iff.mp ha).1
      have e4 : N.2.getD i [] = N.2[i] := by rw [List.getD_eq_getElem?_getD, List.getElem?_eq_getElem hil] <;> rfl
      rw [e4]
      have less : ∀ o ∈ N.2[i], o < N.1 + i := fun o ho => ok.at_less hil ho
      have hlen := Nt.asc_len (ok.at_asc hil) less
      have sl : (Nt.stand (N.2.take i) b).length = N.1 + i := by rw [Nt.stand_len, List.length_take, hb]; omega
      refine SN.is (sn_forget 3 (sn_one (sn_append 2 (d := dN (Nt.tell (Nt.stand (N.2.take i) b) N.2[i])) (pd_if (ptd_val (pd_anyM (l := N.2[i]) (f := fun o => (Nt.stand (N.2.take i) b).getD o 0 == 1) rfl M.any ?_)) ?_ ?_) ?_))) ?_
      · exact pd_lcA 4 sc_standing_in.nd (pid_tup (pd_v 3)) rfl (fun o ho s H C cl fp => pd_eqN hr.units (pd_ownIx 2 (pd_v 4) (Dc.atI_nat (getD_map (by have := less o ho; omega)))) (pd_n 1))
      · intro h
        refine (pd_n 0).to ?_
        unfold Nt.tell
        rw [if_pos h]
      · intro h
        refine (pd_n 1).to ?_
        unfold Nt.tell
        rw [if_neg (by rw [h]; exact Bool.false_ne_true)]
      · rw [List.length_map, sl]; omega
      · rw [stand_take hil, List.map_append] <;> rfl
    · rw [List.take_length]
      exact sr_last (sr_ret (pd_tupleOwn 2 M.tuple)))
def RPaper : List PyData → PyData → Prop := fun ds d => ∃ N, Nt.Ok N ∧ ds = [dNet N] ∧ d = .tuple ((Nt.paper N).map dT)
theorem paper_dat (N : Nt.Net) : PyData.tuple ((Nt.paper N).map dT) = .tuple ((List.range (Nt.size N)).map fun p => .tuple (((Nt.bits N.1).map (Nt.stand N.2)).map fun e => dN (e.getD p 0))) := by
  unfold Nt.paper
  rw [List.map_map]
  congr 1
  refine List.map_congr_left fun p _ => ?_
  show PyData.tuple ((((Nt.bits N.1).map (Nt.stand N.2)).map fun e => e.getD p 0).map dN) = _
  rw [List.map_map] <;> rfl
theorem w_paper_in (M : Mg mg) (H1 : Has P w K mg base "standing_in" 1 ["net", "bits"] (spD RStand)) (H2 : Has P w K mg base "all_bits" 1 ["inputs"] (spD RBits)) (H3 : Has P w K mg base "size_of" 1 ["net"] (spD RSize)) (F : FnP K "paper_in" s_paper_in f fd) : FnOk P w K mg base CX0 2 f fd ["net"] (spF RPaper) :=
  def_F F sc_paper_in RPaper 4 rfl (by rintro ds d ⟨N, _, rfl, rfl⟩; rfl) (by
    rintro cdv A outer s H E ds d hr ⟨N, ok, rfl, rfl⟩
    have few := bits_small ok.hi (Nat.le_refl _)
    have h9 := ok.size
    refine sf_cons (sn_set 1 sc_paper_in.nd (d := .list ((Nt.bits N.1).map fun b => dT (Nt.stand N.2 b))) (pd_lcA 2 sc_paper_in.nd (pid_list (pd_call H2 hr (pds_one (pd_ixTN (pd_v 0) (pd_n 0) rfl)) ⟨N.1, ok.hi, rfl, rfl⟩)) rfl ?_)) ?_
    · intro b hb s H C cl fp
      exact pd_call H1 hr (pds_cons (pd_v 0) (pds_one (pd_v 2))) ⟨N, b, ok, Nt.bits_len hb, rfl, rfl⟩
    · rw [paper_dat]
      refine sf_last (sf_ret M.tuple (pd_lcA (l := List.range (Nt.size N)) 3 sc_paper_in.nd (pid_range1 M.range (pd_call H3 hr (pds_one (pd_v 0)) ⟨_, rfl, rfl⟩) (by omega)) rfl ?_ (by rw [List.length_range]; omega)))
      intro p hp s H C cl fp
      have hp' := List.mem_range.mp hp
      refine pd_tuple M.tuple (pd_lcA (l := (Nt.bits N.1).map (Nt.stand N.2)) 4 sc_paper_in.nd (pid_list (pd_v 1)) (show (List.map (fun b => dT (Nt.stand N.2 b)) (Nt.bits N.1)) = ((Nt.bits N.1).map (Nt.stand N.2)).map dT by rw [List.map_map]; rfl) ?_ (by rw [List.length_map]; omega))
      intro e he s H C cl fp
      obtain ⟨b, hb, rfl⟩ := List.mem_map.mp he
      exact pd_ixTN (pd_v 4) (pd_v 3) (getD_map (by rw [Nt.stand_len, Nt.bits_len hb]; exact hp')))
def RTabs : List PyData → PyData → Prop := fun ds d => ∃ N as d0, Nt.Ok N ∧ (∀ a ∈ as, a < Nt.size N) ∧ as.length ≤ 60 ∧ IsSeq d0 (as.map dN) ∧ ds = [dNet N, d0] ∧ d = .list ((Nt.tabs N as).map dT)
theorem w_tables_of (M : Mg mg) (H1 : Has P w K mg base "paper_in" 2 ["net"] (spF RPaper)) (F : FnP K "tables_of" s_tables_of f fd) : FnOk P w K mg base CX0 3 f fd ["net", "answers"] (spD RTabs) :=
  def_R F sc_tables_of RTabs 2 rfl (by rintro ds d ⟨N, as, d0, _, _, _, _, rfl, rfl⟩; rfl) (by
    rintro cdv A outer s H E ds d hr ⟨N, as, d0, ok, lt, few, hs, rfl, rfl⟩
    refine sr_cons (sn_set 2 sc_tables_of.nd (pd_call H1.plain hr (pds_one (pd_v 0)) ⟨N, ok, rfl, rfl⟩)) ?_
    have e : (Nt.tabs N as).map dT = as.map fun p => dT ((Nt.paper N).getD p []) := by
      unfold Nt.tabs
      rw [List.map_map] <;> rfl
    rw [e]
    refine sr_last (sr_ret (pd_lcA 3 sc_tables_of.nd (pid_seq (pd_v 1) hs) rfl ?_))
    intro p hp s H C cl fp
    exact pd_ixTN (pd_v 2) (pd_v 3) (getD_mapT (by rw [Nt.paper_len]; exact lt p hp)))
def RCutIn : List PyData → PyData → Prop := fun ds d => ∃ N p o, N.1 ≤ p ∧ p < Nt.size N ∧ Nt.Ok N ∧ ds = [dNet N, dN p, dN o] ∧ d = dNet (Nt.cut N p o)
theorem set_cut {α : Type} {l : List α} {k : Nat} {x : α} (h : k < l.length) : l.take k ++ [x] ++ l.drop (k + 1) = l.set k x := by
  rw [List.set_eq_take_append_cons_drop, if_pos h, List.append_assoc] <;> rfl
theorem cut_dat {N : Nt.Net} {p o : Nat} (h1 : N.1 ≤ p) (h2 : p < Nt.size N) : (N.2.map dT).take (p - N.1) ++ [dT ((Nt.fr N p).filter (· != o))] ++ (N.2.map dT).drop (p - N.1 + 1) = (Nt.cut N p o).2.map dT := by
  unfold Nt.size at h2
  rw [set_cut (by rw [List.length_map]; omega), ← List.map_set] <;> rfl
theorem fr_dat {N : Nt.Net} {p : Nat} (h1 : N.1 ≤ p) (h2 : p < Nt.size N) : (N.2.map dT)[p - N.1]? = some (dT (Nt.fr N p)) := by
  unfold Nt.size at h2
  have hk : p - N.1 < N.2.length := by omega
  have e := Nt.fr_at hk
  rw [show N.1 + (p - N.1) = p by omega] at e
  rw [List.getElem?_map, List.getElem?_eq_getElem hk, e] <;> rfl
theorem w_cut_in (M : Mg mg) (F : FnP K "cut_in" s_cut_in f fd) : FnOk P w K mg base CX0 1 f fd ["net", "person", "other"] (spD RCutIn) :=
  def_R F sc_cut_in RCutIn 3 rfl (by rintro ds d ⟨N, p, o, _, _, _, rfl, rfl⟩; rfl) (by
    rintro cdv A outer s H E ds d hr ⟨N, p, o, h1, h2, ok, rfl, rfl⟩
    have hl := ok.frlen p
    have h9 := ok.size
    have few := ok.few
    refine sr_cons (sn_set 3 sc_cut_in.nd (pd_subN (pd_v 1) (pd_ixTN (pd_v 0) (pd_n 0) rfl) h1)) ?_
    refine sr_cons (sn_set 4 sc_cut_in.nd (d := dT ((Nt.fr N p).filter (· != o))) (pd_tuple M.tuple (pd_lcF 5 sc_cut_in.nd (pid_tup (pd_ixTN (pd_ixTN (pd_v 0) (pd_n 1) rfl) (pd_v 3) (fr_dat h1 h2))) rfl (fun a ha s H C cl fp => ptd_neN hr.units (pd_v 5) (pd_v 2)) (fun a ha hh s H C cl fp => pd_v 5)))) ?_
    unfold dNet
    rw [← cut_dat h1 h2]
    refine sr_last (sr_ret (pd_tup (pds_cons (pd_ixTN (pd_v 0) (pd_n 0) rfl) (pds_one (PD.to (pd_catT (pd_catT (pd_slT (pd_ixTN (pd_v 0) (pd_n 1) rfl) pod_none (pod_some (pd_v 3))) (pd_tup (pds_one (pd_v 4))) ?_) (pd_slT (pd_ixTN (pd_v 0) (pd_n 1) rfl) (pod_some (pd_addN (pd_v 3) (pd_n 1))) pod_none) ?_) ?_)))))
    · rw [cut_to, List.length_take, List.length_map]
      show _ + 1 ≤ _
      omega
    · rw [cut_to, cut_from, List.length_append, List.length_take, List.length_drop, List.length_map]
      show _ + 1 + _ ≤ _
      omega
    · rw [cut_to, cut_from])
end
end Wk
end

section
set_option maxHeartbeats 4000000
namespace Wk
open PySem PySem.Spec PyProof.Rows L2 Dc Tx
theorem range_at {n i a : Nat} (ha : (List.range n)[i]? = some a) : i < n ∧ a = i := by
  obtain ⟨h1, h2⟩ := List.getElem?_eq_some_iff.mp ha
  rw [List.length_range] at h1
  exact ⟨h1, by rw [← h2, List.getElem_range]⟩
theorem putI_put (ks : List Nat) (k : Nat) : putI (ks.map Int.ofNat) (k : Int) = (Nt.put ks k).map Int.ofNat := by
  unfold putI Nt.put
  by_cases c : k ∈ ks
  · rw [if_pos c, if_pos (mem_ofNat.mpr c)]
  · rw [if_neg c, if_neg (fun z => c (mem_ofNat.mp z)), List.map_append] <;> rfl
theorem gates_dat (N : Nt.Net) : ((List.range N.2.length).map fun k => dN (N.1 + k)) = (Nt.gates N).map dN := by
  unfold Nt.gates
  rw [List.map_map] <;> rfl
theorem gates_len (N : Nt.Net) : (Nt.gates N).length = N.2.length := by
  unfold Nt.gates
  rw [List.length_map, List.length_range]
section
variable {P : Program} {w : World} {K : PySem.W.Frag} {mg : Str → Option Value} {base : Heap} {f : Addr} {fd : FuncData}
def RUppers : List PyData → PyData → Prop := fun ds d => ∃ N as, Nt.Ok N ∧ (∀ a ∈ as, a < Nt.size N) ∧ ds = [dNet N, dT as] ∧ d = .list ((Nt.up N as).map dN)
theorem w_uppers_in (M : Mg mg) (H1 : Has P w K mg base "size_of" 1 ["net"] (spD RSize)) (H2 : Has P w K mg base "friends_in" 1 ["net", "person"] (spD RFriends)) (F : FnP K "uppers_in" s_uppers_in f fd) : FnOk P w K mg base CX0 2 f fd ["net", "answers"] (spD RUppers) :=
  def_R F sc_uppers_in RUppers 3 rfl (by rintro ds d ⟨N, as, _, _, rfl, rfl⟩; rfl) (by
    rintro cdv A outer s H E ds d hr ⟨N, as, ok, lt, rfl, rfl⟩
    have h9 := ok.size
    have hu := hr.un
    refine sr_cons (sn_setDict0 2 sc_uppers_in.nd) ?_
    refine sr_cons (SN1.is (sn_for (List.range (Nt.size N)) (fun m => dN (Nt.size N - 1 - m)) (fun i => [.dat (dNet N), .dat (dT as), .dic ((Nt.dpass N as i).map Int.ofNat), .no, .no]) (fun i => [.dat (dNet N), .dat (dT as), .dic ((Nt.dpass N as i).map Int.ofNat), .dat (dN (Nt.size N - 1 - i)), .no]) PassesOwn.never rfl
      (pid_rangeDown M.range (pd_sub (pd_call H1 hr (pds_one (pd_v 0)) ⟨_, rfl, rfl⟩) pd_int) (pd_neg pd_int) (pd_neg pd_int) rfl rfl rfl (by omega)) rfl rfl (fun i a ha => ?_) (fun i a ha => ?_)) rfl) ?_
    · obtain ⟨hi, rfl⟩ := range_at ha
      exact pgd_name 3 sc_uppers_in.nd
    · obtain ⟨hi, rfl⟩ := range_at ha
      obtain ⟨f1, f2, f3⟩ := Nt.dpass_few ok lt (Nat.le_of_lt hi)
      obtain ⟨g1, g2, g3⟩ := Nt.dpass_few ok lt (show a + 1 ≤ Nt.size N by omega)
      have e : Nt.dpass N as (a + 1) = Nt.dstep N as (Nt.dpass N as a) (Nt.size N - 1 - a) := rfl
      have hp : ∃ p, p = Nt.size N - 1 - a := ⟨_, rfl⟩
      obtain ⟨p, hp⟩ := hp
      have hps : p < Nt.size N := by omega
      have hks : ∃ ks, ks = Nt.dpass N as a := ⟨_, rfl⟩
      obtain ⟨ks, hks⟩ := hks
      rw [e]
      rw [e] at g1 g2 g3
      rw [← hp, ← hks]
      rw [← hp, ← hks] at g1 g2 g3
      rw [← hks] at f1 f2 f3
      refine SN.is (ρ1 := [.dat (dNet N), .dat (dT as), .dic ((Nt.dstep N as ks p).map Int.ofNat), .no, .no]) (sn_forget 3 (sn_forget 4 (ρ1 := [.dat (dNet N), .dat (dT as), .dic ((Nt.dstep N as ks p).map Int.ofNat), .dat (dN p), .no]) (sn_one (sn_if (PW.pt (pwd_or (ptd_inN (pd_v 3) (pd_v 1) isTup) fun _ => pwd_or1 (ptd_inDic 2 (n := (p : Int)) (by show A.units + 3 + 1 < cLine; have : A.units + 3 + 16 * 1 + 200 < cLine := hu; omega) (pd_v 3)))) (fun h => ?_) (fun h => ?_))))) rfl
      · have hc : p ∈ as ∨ p ∈ ks := by
          rcases Bool.or_eq_true_iff.mp h with z | z
          · exact .inl (of_decide_eq_true z)
          · exact .inr (mem_ofNat.mp (of_decide_eq_true z))
        have es : Nt.dstep N as ks p = Nt.puts (Nt.put ks p) (Nt.fr N p) := by
          unfold Nt.dstep
          rw [if_pos hc]
        rw [es] at g1 g2 g3 ⊢
        refine sn_cons (SN1.is (sn_dput 2 (n := (p : Int)) (by show A.units + 3 + 1 < cLine; have : A.units + 3 + 16 * 1 + 200 < cLine := hu; omega) (pd_v 3) ?_) (ρ2 := [.dat (dNet N), .dat (dT as), .dic ((Nt.put ks p).map Int.ofNat), .dat (dN p), .no]) (by rw [putI_put] <;> rfl)) ?_
        · rw [List.length_map]; omega
        refine SN.is (sn_forget 4 (sn_one (SN1.is (sn_for (Nt.fr N p) dN (fun i => [.dat (dNet N), .dat (dT as), .dic ((Nt.puts (Nt.put ks p) ((Nt.fr N p).take i)).map Int.ofNat), .dat (dN p), if i = 0 then .no else .dat (dN ((Nt.fr N p).getD (i - 1) 0))]) (fun i => [.dat (dNet N), .dat (dT as), .dic ((Nt.puts (Nt.put ks p) ((Nt.fr N p).take i)).map Int.ofNat), .dat (dN p), .dat (dN ((Nt.fr N p).getD i 0))]) PassesOwn.never rfl
          (pid_tup (pd_call H2 hr (pds_cons (pd_v 0) (pds_one (pd_v 3))) ⟨N, p, hps, rfl, rfl⟩)) rfl rfl (fun i o ho => ?_) (fun i o ho => ?_)) rfl))) (by rw [List.take_length] <;> rfl)
        · have e4 : (Nt.fr N p).getD i 0 = o := by rw [List.getD_eq_getElem?_getD, ho] <;> rfl
          rw [e4]
          exact pgd_name 4 sc_uppers_in.nd
        · have hil := (List.getElem?_eq_some_iff.mp ho).1
          have e4 : (Nt.fr N p).getD i 0 = (Nt.fr N p)[i] := by rw [List.getD_eq_getElem?_getD, List.getElem?_eq_getElem hil] <;> rfl
          have few : (Nt.puts (Nt.put ks p) ((Nt.fr N p).take i)).length ≤ 9 := Nat.le_trans (Nt.few_keys (m := Nt.size N) (Nt.nodup_puts (Nt.nodup_put f1)) fun x hx => g3 x (by
            rcases Nt.mem_puts.mp hx with q | q
            · exact Nt.mem_puts.mpr (.inl q)
            · exact Nt.mem_puts.mpr (.inr (List.mem_of_mem_take q)))).1 h9
          refine sn_one (SN1.is (sn_dput 2 (n := ((Nt.fr N p).getD i 0 : Int)) (by show A.units + 3 + 1 < cLine; have : A.units + 3 + 16 * 1 + 200 < cLine := hu; omega) (pd_v 4) ?_) ?_)
          · rw [List.length_map]; omega
          rw [Nt.puts_take hil, putI_put, e4, if_neg (Nat.succ_ne_zero i), Nat.add_sub_cancel, e4] <;> rfl
      · have hc : ¬ (p ∈ as ∨ p ∈ ks) := fun z => by
          rcases z with z | z
          · rw [decide_eq_true z] at h; cases h
          · rw [decide_eq_true (mem_ofNat.mpr z), Bool.or_true] at h; cases h
        have es : Nt.dstep N as ks p = ks := by
          unfold Nt.dstep
          rw [if_neg hc]
        rw [es]
        exact sn_nil
    · rw [List.length_range]
      obtain ⟨p1, p2⟩ := Nt.dpass_up ok lt
      refine sr_last (sr_ret (PD.to (pd_sortDic 2 ((Nt.up N as).map Int.ofNat) rfl M.sorted M.list (by rw [List.length_map]; omega) (p1.map _) (List.pairwise_map.mpr ((Nt.up_asc N as).imp fun h => Int.ofNat_le.mpr (Nat.le_of_lt h)))) (by rw [mapN])))
    )
end
end Wk
end

section
set_option maxHeartbeats 4000000
namespace Wk
open PySem PySem.Spec PyProof.Rows L2 Dc Tx
def dQ (q : Nat × Nat) : PyData := .tuple [dN q.1, dN q.2]
theorem sh_Q (q : Nat × Nat) : Sh 1 (dQ q) := sh_tup fun d hd => by
  rcases List.mem_cons.mp hd with e | hd
  · rw [e]; exact sh_N _
  · rw [List.mem_singleton.mp hd]; exact sh_N _
theorem sh_tabs (l : List (List Nat)) : Sh 2 (.list (l.map dT)) := sh_lst (sh_map fun k => sh_T k)
theorem eqv_tabsL (l m : List (List Nat)) : PyData.eqv (.list (l.map dT)) (.list (m.map dT)) = (l == m) := by
  show PyData.eqvAll (l.map dT) (m.map dT) = _
  rw [eqv_tabs]
  by_cases h : l = m
  · rw [decide_eq_true h, beq_iff_eq.mpr h]
  · rw [decide_eq_false h, beq_eq_false_iff_ne.mpr h]
theorem flat_len {α β : Type} {f : α → List β} {c : Nat} : ∀ {l : List α}, (∀ a ∈ l, (f a).length ≤ c) → (l.flatMap f).length ≤ l.length * c
  | [], _ => Nat.zero_le _
  | a :: l, h => by
    rw [List.flatMap_cons, List.length_append, List.length_cons, Nat.succ_mul]
    have h1 := h a List.mem_cons_self
    have h2 := flat_len (l := l) fun x hx => h x (List.mem_cons_of_mem _ hx)
    omega
theorem take_flat {α β : Type} {l : List α} {f : α → List β} {i : Nat} {a : α} (h : l[i]? = some a) : (l.take (i + 1)).flatMap f = (l.take i).flatMap f ++ f a := by
  rw [List.take_add_one, h, List.flatMap_append]
  congr 1
  show f a ++ [] = _
  rw [List.append_nil]
theorem nl_len {N : Nt.Net} (ok : Nt.Ok N) (as : List Nat) {p : Nat} (hp : p < Nt.size N) : (Nt.nlAt N as p).length ≤ 9 := by
  unfold Nt.nlAt
  rw [List.length_map]
  have h1 := List.length_filter_le (fun o => Nt.tabs (Nt.cut N p o) as == Nt.tabs N as) (Nt.fr N p)
  have h2 := ok.frlen p
  have h3 := ok.size
  omega
theorem filter_mem (l g : List Nat) : g.filter (fun o => decide (o ∈ l)) = g.filter (l.contains ·) := List.filter_congr fun x _ => by
  by_cases h : x ∈ l
  · rw [decide_eq_true h, List.contains_iff_mem.mpr h]
  · rw [decide_eq_false h]
    exact (Bool.eq_false_iff.mpr fun z => h (List.contains_iff_mem.mp z)).symm
section
variable {P : Program} {w : World} {K : PySem.W.Frag} {mg : Str → Option Value} {base : Heap} {f : Addr} {fd : FuncData}
def RLeft : List PyData → PyData → Prop := fun ds d => ∃ N l, Nt.Ok N ∧ Nt.Kept N l ∧ ds = [dNet N, .list (l.map dN)] ∧ d = dNet (Nt.left N l)
def leftAt (N : Nt.Net) (l : List Nat) (w : Nat) : List Nat := ((Nt.fr N w).filter (l.contains ·)).map (l.idxOf ·)
theorem left_dat (N : Nt.Net) (l : List Nat) : dNet (Nt.left N l) = .tuple [dN N.1, .tuple ((l.drop N.1).map fun w => dT (leftAt N l w))] := by
  unfold dNet Nt.left
  rw [List.map_map] <;> rfl
theorem w_left (M : Mg mg) (H2 : Has P w K mg base "friends_in" 1 ["net", "person"] (spD RFriends)) (F : FnP K "left" s_left f fd) : FnOk P w K mg base CX0 2 f fd ["net", "kept"] (spD RLeft) :=
  def_R F sc_left RLeft 4 rfl (by rintro ds d ⟨N, l, _, _, rfl, rfl⟩; rfl) (by
    rintro cdv A outer s H E ds d hr ⟨N, l, ok, kp, rfl, rfl⟩
    have h9 := ok.size
    have hl := Nt.asc_len kp.asc kp.lt
    refine sr_cons (sn_set 2 sc_left.nd (pd_sortedN l M.sorted (pd_v 1) (by omega) (List.Perm.refl _) (kp.asc.imp fun h => Nat.le_of_lt h))) ?_
    refine sr_cons (sn_setNil 3 sc_left.nd) ?_
    refine sr_cons (SN1.is (sn_for (l.drop N.1) dN (fun i => [.dat (dNet N), .dat (.list (l.map dN)), .dat (.list (l.map dN)), .lst (((l.drop N.1).take i).map fun w => dT (leftAt N l w)), .no, .no]) (fun i => [.dat (dNet N), .dat (.list (l.map dN)), .dat (.list (l.map dN)), .lst (((l.drop N.1).take i).map fun w => dT (leftAt N l w)), .dat (dN ((l.drop N.1).getD i 0)), .no]) PassesOwn.never rfl
      (pid_list (pd_slL (pd_v 2) (pod_some (pd_ixTN (pd_v 0) (pd_n 0) rfl)) pod_none)) (by rw [cut_from, List.map_drop]) rfl (fun i a ha => ?_) (fun i a ha => ?_)) rfl) ?_
    · have e4 : (l.drop N.1).getD i 0 = a := by rw [List.getD_eq_getElem?_getD, ha] <;> rfl
      rw [e4]
      exact pgd_name 4 sc_left.nd
    · have e4 : (l.drop N.1).getD i 0 = a := by rw [List.getD_eq_getElem?_getD, ha] <;> rfl
      have hal : a ∈ l := List.mem_of_mem_drop (List.mem_of_getElem? ha)
      have has := kp.lt a hal
      have hfl := ok.frlen a
      rw [e4]
      refine SN.is (sn_forget 4 (sn_one (sn_append 3 (d := dT (leftAt N l a)) (pd_tuple M.tuple (PD.to (pd_lcF 5 sc_left.nd (pid_tup (pd_call H2 hr (pds_cons (pd_v 0) (pds_one (pd_v 4))) ⟨N, a, has, rfl, rfl⟩)) rfl (fun o ho s H C cl fp => ptd_inN (pd_v 5) (pd_v 2) isLst) (fun o ho hh s H C cl fp => pd_indexN (pd_v 2) (pd_v 5) (of_decide_eq_true hh))) ?_)) ?_))) ?_
      · unfold leftAt
        rw [filter_mem, List.map_map] <;> rfl
      · rw [List.length_map, List.length_take]
        have := List.length_drop (i := N.1) (l := l)
        omega
      · show [Sl.dat _, _, _, Sl.lst (_ ++ [dT (leftAt N l a)]), _, _] = _
        rw [List.take_add_one, ha, List.map_append] <;> rfl
    · rw [List.take_length, left_dat]
      exact sr_last (sr_ret (pd_tup (pds_cons (pd_ixTN (pd_v 0) (pd_n 0) rfl) (pds_one (pd_tupleOwn 3 M.tuple))))))
def ROut : List PyData → PyData → Prop := fun ds d => ∃ N p, Nt.Ok N ∧ N.1 ≤ p ∧ p < Nt.size N ∧ ds = [dNet N, dN p] ∧ d = dNet (Nt.left N (Nt.others N p))
theorem w_taken_out (M : Mg mg) (H1 : Has P w K mg base "need_net" 3 ["net"] (spD RNeedNet)) (H2 : Has P w K mg base "need_person" 3 ["net", "person"] (spD RNeedPerson)) (H3 : Has P w K mg base "size_of" 1 ["net"] (spD RSize)) (H4 : Has P w K mg base "left" 2 ["net", "kept"] (spD RLeft)) (F : FnP K "taken_out" s_taken_out f fd) : FnOk P w K mg base CX0 4 f fd ["net", "person"] (spD ROut) :=
  def_R F sc_taken_out ROut 1 rfl (by rintro ds d ⟨N, p, _, _, _, rfl, rfl⟩; rfl) (by
    rintro cdv A outer s H E ds d hr ⟨N, p, ok, h1, h2, rfl, rfl⟩
    have h9 := ok.size
    refine sr_cons (sn_expr (pd_call H1 hr (pds_one (pd_v 0)) ⟨N, ok, rfl, rfl⟩)) ?_
    refine sr_cons (sn_expr (pd_call H2 hr (pds_cons (pd_v 0) (pds_one (pd_v 1))) ⟨N, p, h2, rfl, rfl⟩)) ?_
    refine sr_cons (sn_unless (PTD.to (ptd_ltN (pd_v 1) (pd_ixTN (pd_v 0) (pd_n 0) rfl)) (decide_eq_false (by omega)))) ?_
    refine sr_last (sr_ret (pd_call H4 hr (pds_cons (pd_v 0) (pds_one (pd_lcF 2 sc_taken_out.nd (pid_range1 M.range (pd_call H3 hr (pds_one (pd_v 0)) ⟨_, rfl, rfl⟩) (by omega)) rfl (fun o ho s H C cl fp => ptd_neN hr.units (pd_v 2) (pd_v 1)) (fun o ho hh s H C cl fp => pd_v 2) (by rw [List.length_range]; omega)))) ⟨N, Nt.others N p, ok, Nt.kept_others h1, rfl, rfl⟩)))
def RNeedless : List PyData → PyData → Prop := fun ds d => ∃ N as, Nt.Ok N ∧ (∀ a ∈ as, a < Nt.size N) ∧ as.length ≤ 60 ∧ ds = [dNet N, dT as] ∧ d = .list ((Nt.needless N as).map dQ)
theorem w_needless_in (M : Mg mg) (H1 : Has P w K mg base "tables_of" 3 ["net", "answers"] (spD RTabs)) (H2 : Has P w K mg base "size_of" 1 ["net"] (spD RSize)) (H3 : Has P w K mg base "friends_in" 1 ["net", "person"] (spD RFriends)) (H4 : Has P w K mg base "cut_in" 1 ["net", "person", "other"] (spD RCutIn)) (F : FnP K "needless_in" s_needless_in f fd) : FnOk P w K mg base CX0 4 f fd ["net", "answers"] (spD RNeedless) :=
  def_R F sc_needless_in RNeedless 4 rfl (by rintro ds d ⟨N, as, _, _, _, rfl, rfl⟩; rfl) (by
    rintro cdv A outer s H E ds d hr ⟨N, as, ok, lt, few, rfl, rfl⟩
    have h9 := ok.size
    have h6 := ok.few
    have hgl : ∀ a ∈ Nt.gates N, (Nt.nlAt N as a).length ≤ 9 := fun a ha => nl_len ok as (Nt.mem_gates.mp ha).2
    refine sr_cons (sn_par2own 2 3 rfl sc_needless_in.nd (pd_call H1 hr (pds_cons (pd_v 0) (pds_one (pd_v 1))) ⟨N, as, _, ok, lt, few, isTup, rfl, rfl⟩)) ?_
    refine sr_cons (SN1.is (sn_for (Nt.gates N) dN (fun i => [.dat (dNet N), .dat (dT as), .dat (.list ((Nt.tabs N as).map dT)), .lst ((((Nt.gates N).take i).flatMap (Nt.nlAt N as)).map dQ), .no, .no]) (fun i => [.dat (dNet N), .dat (dT as), .dat (.list ((Nt.tabs N as).map dT)), .lst ((((Nt.gates N).take i).flatMap (Nt.nlAt N as)).map dQ), .dat (dN ((Nt.gates N).getD i 0)), .no]) PassesOwn.never rfl
      (pid_range2 (n := N.2.length) M.range (pd_ixTN (pd_v 0) (pd_n 0) rfl) (pd_call H2 hr (pds_one (pd_v 0)) ⟨_, rfl, rfl⟩) rfl (by unfold Nt.size at h9; omega)) (gates_dat N) rfl (fun i a ha => ?_) (fun i a ha => ?_)) rfl) ?_
    · have e4 : (Nt.gates N).getD i 0 = a := by rw [List.getD_eq_getElem?_getD, ha] <;> rfl
      rw [e4]
      exact pgd_name 4 sc_needless_in.nd
    · have e4 : (Nt.gates N).getD i 0 = a := by rw [List.getD_eq_getElem?_getD, ha] <;> rfl
      rw [e4, take_flat ha]
      obtain ⟨g1, g2⟩ := Nt.mem_gates.mp (List.mem_of_getElem? ha)
      have hfl := ok.frlen a
      have hb : (((Nt.gates N).take i).flatMap (Nt.nlAt N as)).length ≤ 54 := by
        have := flat_len (l := (Nt.gates N).take i) (f := Nt.nlAt N as) (c := 9) fun x hx => hgl x (List.mem_of_mem_take hx)
        rw [List.length_take, gates_len] at this
        have h7 : min i N.2.length * 9 ≤ 6 * 9 := Nat.mul_le_mul_right _ (by omega)
        omega
      generalize ((Nt.gates N).take i).flatMap (Nt.nlAt N as) = bs at hb
      refine SN.is (sn_forget 4 (sn_forget 5 (sn_one (SN1.is (sn_for (Nt.fr N a) dN (fun j => [.dat (dNet N), .dat (dT as), .dat (.list ((Nt.tabs N as).map dT)), .lst (bs.map dQ ++ (((Nt.fr N a).take j).filter fun o => Nt.tabs (Nt.cut N a o) as == Nt.tabs N as).map fun o => dQ (a, o)), .dat (dN a), .no]) (fun j => [.dat (dNet N), .dat (dT as), .dat (.list ((Nt.tabs N as).map dT)), .lst (bs.map dQ ++ (((Nt.fr N a).take j).filter fun o => Nt.tabs (Nt.cut N a o) as == Nt.tabs N as).map fun o => dQ (a, o)), .dat (dN a), .dat (dN ((Nt.fr N a).getD j 0))]) PassesOwn.never rfl
        (pid_tup (pd_call H3 hr (pds_cons (pd_v 0) (pds_one (pd_v 4))) ⟨N, a, g2, rfl, rfl⟩)) rfl (by simp) (fun j o ho => ?_) (fun j o ho => ?_)) rfl)))) ?_
      · have e5 : (Nt.fr N a).getD j 0 = o := by rw [List.getD_eq_getElem?_getD, ho] <;> rfl
        rw [e5]
        exact pgd_name 5 sc_needless_in.nd
      · have e5 : (Nt.fr N a).getD j 0 = o := by rw [List.getD_eq_getElem?_getD, ho] <;> rfl
        rw [e5, take_filter ho]
        have hjl : ((((Nt.fr N a).take j).filter fun o => Nt.tabs (Nt.cut N a o) as == Nt.tabs N as).map fun o => dQ (a, o)).length ≤ 9 := by
          rw [List.length_map]
          have h1 := List.length_filter_le (fun o => Nt.tabs (Nt.cut N a o) as == Nt.tabs N as) ((Nt.fr N a).take j)
          rw [List.length_take] at h1
          omega
        generalize (((Nt.fr N a).take j).filter fun o => Nt.tabs (Nt.cut N a o) as == Nt.tabs N as).map (fun o => dQ (a, o)) = cs at hjl
        refine SN.is (sn_forget 5 (sn_one (sn_if (ρ1 := [.dat (dNet N), .dat (dT as), .dat (.list ((Nt.tabs N as).map dT)), .lst (bs.map dQ ++ (cs ++ if (Nt.tabs (Nt.cut N a o) as == Nt.tabs N as) = true then [dQ (a, o)] else [])), .dat (dN a), .dat (dN o)]) (PTD.to (ptd_eq hr.units (pd_call H1 hr (pds_cons (pd_call H4 hr (pds_cons (pd_v 0) (pds_cons (pd_v 4) (pds_one (pd_v 5)))) ⟨N, a, o, g1, g2, ok, rfl, rfl⟩) (pds_one (pd_v 1))) ⟨Nt.cut N a o, as, _, ok.cut g1, by rw [Nt.size_cut]; exact lt, few, isTup, rfl, rfl⟩) (pd_v 2) (sh_tabs _).shaped (sh_tabs _).shaped) (eqv_tabsL _ _)) (fun h => ?_) (fun h => ?_)))) rfl
        · rw [if_pos h, ← List.append_assoc]
          refine sn_one (sn_append 3 (d := dQ (a, o)) (pd_tup (pds_cons (pd_v 4) (pds_one (pd_v 5)))) ?_)
          rw [List.length_append, List.length_map]
          omega
        · rw [h, if_neg Bool.false_ne_true, List.append_nil]
          exact sn_nil
      · rw [List.take_length, List.map_append]
        unfold Nt.nlAt
        rw [List.map_map] <;> rfl
    · rw [List.take_length, ← Nt.needless_gates]
      exact sr_last (sr_retOwn 3))
end
end Wk
end

section
set_option maxHeartbeats 4000000
namespace Wk
open PySem PySem.Spec PyProof.Rows L2 Dc Tx
theorem isInd {ds : List PyData} : IsSeq (.list ds) ds := .inl rfl
theorem ans_few {N : Nt.Net} (ok : Nt.Ok N) {as : List Nat} (an : Nt.Ans N as) : as.length ≤ 9 := Nat.le_trans (Nt.asc_len an.asc an.lt) ok.size
section
variable {P : Program} {w : World} {K : PySem.W.Frag} {mg : Str → Option Value} {base : Heap} {f : Addr} {fd : FuncData}
abbrev HNet (P : Program) (w : World) (K : PySem.W.Frag) (mg : Str → Option Value) (base : Heap) : Prop := Has P w K mg base "need_net" 3 ["net"] (spD RNeedNet)
abbrev HAns (P : Program) (w : World) (K : PySem.W.Frag) (mg : Str → Option Value) (base : Heap) : Prop := Has P w K mg base "need_answers" 3 ["net", "answers"] (spD RNeedAns)
def RNF : List PyData → PyData → Prop := fun ds d => ∃ N as, Nt.Ok N ∧ Nt.Ans N as ∧ ds = [dNet N, dT as] ∧ d = .tuple ((Nt.needless N as).map dQ)
theorem w_needless_friends (M : Mg mg) (H1 : HNet P w K mg base) (H2 : HAns P w K mg base) (H3 : Has P w K mg base "needless_in" 4 ["net", "answers"] (spD RNeedless)) (F : FnP K "needless_friends" s_needless_friends f fd) : FnOk P w K mg base CX0 5 f fd ["net", "answers"] (spD RNF) :=
  def_R F sc_needless_friends RNF 0 rfl (by rintro ds d ⟨N, as, _, _, rfl, rfl⟩; rfl) (by
    rintro cdv A outer s H E ds d hr ⟨N, as, ok, an, rfl, rfl⟩
    have h9 := ans_few ok an
    refine sr_cons (sn_expr (pd_call H1 hr (pds_one (pd_v 0)) ⟨N, ok, rfl, rfl⟩)) ?_
    refine sr_cons (sn_expr (pd_call H2 hr (pds_cons (pd_v 0) (pds_one (pd_v 1))) ⟨N, as, ok, an, rfl, rfl⟩)) ?_
    exact sr_last (sr_ret (pd_tuple M.tuple (pd_call H3 hr (pds_cons (pd_v 0) (pds_one (pd_v 1))) ⟨N, as, ok, an.lt, by omega, rfl, rfl⟩))))
def RNP : List PyData → PyData → Prop := fun ds d => ∃ N as, Nt.Ok N ∧ Nt.Ans N as ∧ ds = [dNet N, dT as] ∧ d = dT (Nt.gone N as)
theorem shift_dat (N : Nt.Net) (a p : Nat) (hh : decide (p < a) = true → 1 ≤ a) : (decide (p < a)).toNat ≤ a := by
  cases h : decide (p < a) with
  | true => exact hh h
  | false => exact Nat.zero_le _
theorem w_needless_people (M : Mg mg) (H1 : HNet P w K mg base) (H2 : HAns P w K mg base) (H3 : Has P w K mg base "tables_of" 3 ["net", "answers"] (spD RTabs)) (H4 : Has P w K mg base "size_of" 1 ["net"] (spD RSize)) (H5 : Has P w K mg base "left" 2 ["net", "kept"] (spD RLeft)) (F : FnP K "needless_people" s_needless_people f fd) : FnOk P w K mg base CX0 4 f fd ["net", "answers"] (spD RNP) :=
  def_R F sc_needless_people RNP 5 rfl (by rintro ds d ⟨N, as, _, _, rfl, rfl⟩; rfl) (by
    rintro cdv A outer s H E ds d hr ⟨N, as, ok, an, rfl, rfl⟩
    have h9 := ok.size
    have hf := ans_few ok an
    have h6 := ok.few
    refine sr_cons (sn_expr (pd_call H1 hr (pds_one (pd_v 0)) ⟨N, ok, rfl, rfl⟩)) ?_
    refine sr_cons (sn_expr (pd_call H2 hr (pds_cons (pd_v 0) (pds_one (pd_v 1))) ⟨N, as, ok, an, rfl, rfl⟩)) ?_
    refine sr_cons (sn_par2own 2 3 rfl sc_needless_people.nd (pd_call H3 hr (pds_cons (pd_v 0) (pds_one (pd_v 1))) ⟨N, as, _, ok, an.lt, by omega, isTup, rfl, rfl⟩)) ?_
    refine sr_cons (SN1.is (sn_for (Nt.gates N) dN (fun i => [.dat (dNet N), .dat (dT as), .dat (.list ((Nt.tabs N as).map dT)), .lst ((((Nt.gates N).take i).filter (Nt.goneB N as)).map dN), .no, .no, .no]) (fun i => [.dat (dNet N), .dat (dT as), .dat (.list ((Nt.tabs N as).map dT)), .lst ((((Nt.gates N).take i).filter (Nt.goneB N as)).map dN), .dat (dN ((Nt.gates N).getD i 0)), .no, .no]) PassesOwn.never rfl
      (pid_range2 (n := N.2.length) M.range (pd_ixTN (pd_v 0) (pd_n 0) rfl) (pd_call H4 hr (pds_one (pd_v 0)) ⟨_, rfl, rfl⟩) rfl (by unfold Nt.size at h9; omega)) (gates_dat N) rfl (fun i a ha => ?_) (fun i a ha => ?_)) rfl) ?_
    · have e4 : (Nt.gates N).getD i 0 = a := by rw [List.getD_eq_getElem?_getD, ha] <;> rfl
      rw [e4]
      exact pgd_name 4 sc_needless_people.nd
    · have e4 : (Nt.gates N).getD i 0 = a := by rw [List.getD_eq_getElem?_getD, ha] <;> rfl
      rw [e4, take_filter ha]
      obtain ⟨g1, g2⟩ := Nt.mem_gates.mp (List.mem_of_getElem? ha)
      have hb : ((((Nt.gates N).take i).filter (Nt.goneB N as)).map dN).length ≤ 6 := by
        rw [List.length_map]
        have := List.length_filter_le (Nt.goneB N as) ((Nt.gates N).take i)
        rw [List.length_take, gates_len] at this
        omega
      generalize (((Nt.gates N).take i).filter (Nt.goneB N as)).map dN = bs at hb
      refine SN.is (sn_forget 4 (sn_one (sn_if (ρ1 := [.dat (dNet N), .dat (dT as), .dat (.list ((Nt.tabs N as).map dT)), .lst (bs ++ if Nt.goneB N as a = true then [dN a] else []), .dat (dN a), .no, .no]) (ptd_notInN (pd_v 4) (pd_v 1) isTup) (fun h => ?_) (fun h => ?_)))) rfl
      · have hna : a ∉ as := fun z => by rw [decide_eq_true z] at h; cases h
        have lt2 : ∀ b ∈ as.map (Nt.shift a), b < Nt.size (Nt.left N (Nt.others N a)) := fun b hb => by
          obtain ⟨c, hc, rfl⟩ := List.mem_map.mp hb
          exact Nt.shift_lt g1 g2 (an.lt c hc) fun z => hna (z ▸ hc)
        refine sn_cons (sn_set 5 sc_needless_people.nd (pd_call H5 hr (pds_cons (pd_v 0) (pds_one (pd_lcF (f := fun o => o != a) 6 sc_needless_people.nd (pid_range1 M.range (pd_call H4 hr (pds_one (pd_v 0)) ⟨_, rfl, rfl⟩) (by omega)) rfl (fun o ho s H C cl fp => ptd_neN hr.units (pd_v 6) (pd_v 4)) (fun o ho hh s H C cl fp => pd_v 6) (by rw [List.length_range]; omega)))) ⟨N, Nt.others N a, ok, Nt.kept_others g1, rfl, rfl⟩)) ?_
        refine SN.is (sn_forget 5 (sn_one (sn_if (ρ1 := [.dat (dNet N), .dat (dT as), .dat (.list ((Nt.tabs N as).map dT)), .lst (bs ++ if Nt.goneB N as a = true then [dN a] else []), .dat (dN a), .dat (dNet (Nt.left N (Nt.others N a))), .no]) (k := Nt.tabs (Nt.left N (Nt.others N a)) (as.map (Nt.shift a)) == Nt.tabs N as) (PTD.to (ptd_eq hr.units (pd_call H3 hr (pds_cons (pd_v 5) (pds_one (PD.to (d' := .list ((as.map (Nt.shift a)).map dN)) (pd_lcA 6 sc_needless_people.nd (pid_tup (pd_v 1)) rfl (fun o ho s H C cl fp => pd_subN (pd_v 6) (pd_intBN M.int (pd_gtN (pd_v 6) (pd_v 4))) (shift_dat N o a fun z => by have := of_decide_eq_true z; omega))) (by rw [List.map_map]; rfl)))) ⟨Nt.left N (Nt.others N a), as.map (Nt.shift a), _, ok.left (Nt.kept_others g1), lt2, by rw [List.length_map]; omega, isLst, rfl, rfl⟩) (pd_v 2) (sh_tabs _).shaped (sh_tabs _).shaped) (eqv_tabsL _ _)) (fun h => ?_) (fun h => ?_)))) rfl
        · have eg : Nt.goneB N as a = true := by
            unfold Nt.goneB
            rw [decide_eq_false hna, h] <;> rfl
          rw [if_pos eg]
          exact sn_one (sn_append 3 (pd_v 4) (by omega))
        · have eg : Nt.goneB N as a = false := by
            unfold Nt.goneB
            rw [decide_eq_false hna, h] <;> rfl
          rw [eg, if_neg Bool.false_ne_true, List.append_nil]
          exact sn_nil
      · have ha' : a ∈ as := by
          by_cases z : a ∈ as
          · exact z
          · rw [decide_eq_false z] at h; cases h
        have eg : Nt.goneB N as a = false := by
          unfold Nt.goneB
          rw [decide_eq_true ha'] <;> rfl
        rw [eg, if_neg Bool.false_ne_true, List.append_nil]
        exact sn_nil
    · rw [List.take_length]
      exact sr_last (sr_ret (pd_tupleOwn 3 M.tuple)))
def RThin : List PyData → PyData → Prop := fun ds d => ∃ N as, Nt.Ok N ∧ Nt.Ans N as ∧ ds = [dNet N, dT as] ∧ d = .bool ((Nt.needless N as).isEmpty && (Nt.gates N).all fun p => decide (p ∈ Nt.up N as))
theorem w_is_thin (M : Mg mg) (H1 : HNet P w K mg base) (H2 : HAns P w K mg base) (H3 : Has P w K mg base "needless_in" 4 ["net", "answers"] (spD RNeedless)) (H4 : Has P w K mg base "uppers_in" 2 ["net", "answers"] (spD RUppers)) (H5 : Has P w K mg base "size_of" 1 ["net"] (spD RSize)) (F : FnP K "is_thin" s_is_thin f fd) : FnOk P w K mg base CX0 5 f fd ["net", "answers"] (spD RThin) :=
  def_R F sc_is_thin RThin 2 rfl (by rintro ds d ⟨N, as, _, _, rfl, rfl⟩; rfl) (by
    rintro cdv A outer s H E ds d hr ⟨N, as, ok, an, rfl, rfl⟩
    have h9 := ok.size
    have hf := ans_few ok an
    have h6 := ok.few
    refine sr_cons (sn_expr (pd_call H1 hr (pds_one (pd_v 0)) ⟨N, ok, rfl, rfl⟩)) ?_
    refine sr_cons (sn_expr (pd_call H2 hr (pds_cons (pd_v 0) (pds_one (pd_v 1))) ⟨N, as, ok, an, rfl, rfl⟩)) ?_
    refine sr_cons (sn_set 2 sc_is_thin.nd (pd_call H4 hr (pds_cons (pd_v 0) (pds_one (pd_v 1))) ⟨N, as, ok, an.lt, rfl, rfl⟩)) ?_
    apply SR.is
    · exact sr_last (sr_ret (pd_and (pd_eq hr.units (pd_call H3 hr (pds_cons (pd_v 0) (pds_one (pd_v 1))) ⟨N, as, ok, an.lt, by omega, rfl, rfl⟩) (pd_lst pds_nil) (Sh.shaped (n := 2) (sh_lst (sh_map fun q => sh_Q q))) rfl)
        fun _ => pd_one (pd_allM rfl M.all (pd_lcA (l := Nt.gates N) 3 sc_is_thin.nd (pid_range2 (n := N.2.length) M.range (pd_ixTN (pd_v 0) (pd_n 0) rfl) (pd_call H5 hr (pds_one (pd_v 0)) ⟨_, rfl, rfl⟩) rfl (by unfold Nt.size at h9; omega)) (gates_dat N) (fun o ho s H C cl fp => pd_inN (pd_v 3) (pd_v 2) isLst) (by rw [gates_len]; omega)))))
    · rw [eqv_nil, List.isEmpty_map])
def RSame : List PyData → PyData → Prop := fun ds d => ∃ N as T bs, Nt.Ok N ∧ Nt.Ans N as ∧ Nt.Ok T ∧ Nt.Ans T bs ∧ N.1 = T.1 ∧ Nt.tabs N as = Nt.tabs T bs ∧ ds = [dNet N, dT as, dNet T, dT bs] ∧ d = .bool true
theorem w_same_answers (M : Mg mg) (H1 : HNet P w K mg base) (H2 : HAns P w K mg base) (H3 : Has P w K mg base "tables_of" 3 ["net", "answers"] (spD RTabs)) (F : FnP K "same_answers" s_same_answers f fd) : FnOk P w K mg base CX0 4 f fd ["one", "answers", "other", "others"] (spD RSame) :=
  def_R F sc_same_answers RSame 0 rfl (by rintro ds d ⟨N, as, T, bs, _, _, _, _, _, _, rfl, rfl⟩; rfl) (by
    rintro cdv A outer s H E ds d hr ⟨N, as, T, bs, ok, an, ok2, an2, e1, e2, rfl, rfl⟩
    have hf := ans_few ok an
    have hf2 := ans_few ok2 an2
    refine sr_cons (sn_expr (pd_call H1 hr (pds_one (pd_v 0)) ⟨N, ok, rfl, rfl⟩)) ?_
    refine sr_cons (sn_expr (pd_call H2 hr (pds_cons (pd_v 0) (pds_one (pd_v 1))) ⟨N, as, ok, an, rfl, rfl⟩)) ?_
    refine sr_cons (sn_expr (pd_call H1 hr (pds_one (pd_v 2)) ⟨T, ok2, rfl, rfl⟩)) ?_
    refine sr_cons (sn_expr (pd_call H2 hr (pds_cons (pd_v 2) (pds_one (pd_v 3))) ⟨T, bs, ok2, an2, rfl, rfl⟩)) ?_
    apply SR.is
    · exact sr_last (sr_ret (pd_and (pd_eqN hr.units (pd_ixTN (pd_v 0) (pd_n 0) rfl) (pd_ixTN (pd_v 2) (pd_n 0) rfl)) fun _ => pd_one (pd_eq hr.units (pd_call H3 hr (pds_cons (pd_v 0) (pds_one (pd_v 1))) ⟨N, as, _, ok, an.lt, by omega, isTup, rfl, rfl⟩) (pd_call H3 hr (pds_cons (pd_v 2) (pds_one (pd_v 3))) ⟨T, bs, _, ok2, an2.lt, by omega, isTup, rfl, rfl⟩) (sh_tabs _).shaped (sh_tabs _).shaped)))
    · rw [eqv_tabsL, e1, e2, beq_self_eq_true, beq_self_eq_true] <;> rfl)
end
end Wk
end

section
set_option maxHeartbeats 4000000
namespace Dc
open PySem PySem.Spec PyProof.Rows L2
section
variable {X : Cx} {ρ ρ1 ρ2 : Env} {e a b c : Expr} {es : List Expr} {d d1 d2 : PyData} {ds ds1 es' : List PyData} {pos p : Pos} {s : Stmt} {r : List Stmt}
theorem pa_starRg {t : TA} {te : L2.St → Hp → (Int → Int → Hp → Prop) → Prop} (hc : X.calm = true) (he : PRg X e te) (hr : PA X es t) (hs : starEach (.Starred e p :: es) X.env = (true, eval e X.env) :: starEach es X.env := by rfl) : PA X (.Starred e p :: es) (fun σ H Q => te σ H fun a b H1 => RgOk a b ∧ t σ H1 fun ys H2 => Q (rgV a b ++ ys) H2) := by
  refine ⟨fun pos pins s σ H Q I h => ?_⟩
  refine PySem.W.items_star (thn (he pins s σ H _ I h) fun v s1 ⟨r, a, b, t, u, w, H1, ex, hrg, I1, ok, q⟩ => ?_) hs
  subst ex
  obtain ⟨b1, b2, b3, b4, b5⟩ := ok
  have hT : s1.TypeIs (.ref r) "range" := ⟨_, hrg, rfl⟩
  unfold PySem.W.StarOf notIterableAtAll
  refine wpAny_bind (wpAny_specialOf hT PySem.F.slot_range_iter.lookup (wpAny_pure ⟨rfl, ?_⟩))
  refine collect_range (n := (b - a).toNat) (I1.ok.hd hc) hrg (small_one b1 b2 b3 b4) (rangeSize_nat a b) b5 fun h' tk acc hk hi => ?_
  have I2 : Inv X pins σ H1 { s1 with heap := h', toks := tk } := I1.kept hk
  exact thn (hr.run pos pins _ σ H1 _ I2 q) fun ws s3 ⟨vs, H3, I3, r3, q3⟩ => ⟨rgV a b ++ vs, H3, I3, (vals_rg hi).append r3, q3⟩
theorem rgV_nat (n : Nat) : rgV 0 (n : Int) = ((List.range n).map Int.ofNat).map V.int := by
  unfold rgV
  rw [show ((n : Int) - 0).toNat = n by omega, List.map_map]
  refine List.map_congr_left fun i _ => ?_
  show V.int (0 + (i : Int)) = V.int (i : Int)
  rw [Int.zero_add]
theorem DdAll.rg {B : Hp} (n : Nat) : DdAll B (rgV 0 (n : Int)) ((List.range n).map dN) := by
  rw [rgV_nat, mapN]
  exact .ofInts _
theorem pds_starRange {n : Nat} {p2 p3 : Pos} (hc : X.calm = true) (hm : X.mg "range" = none) (ha : PD X a ρ (dN n)) (hn : n ≤ 100000) (hr : PDs X es ρ ds) (na : starEach [a] X.env = (false, eval a X.env) :: starEach [] X.env := by rfl) (hs : starEach (.Starred (.Call (.Name "range" p2) [a] [] p3) p :: es) X.env = (true, eval (.Call (.Name "range" p2) [a] [] p3) X.env) :: starEach es X.env := by rfl) (hg : Gl X "range" := by rfl) :
    PDs X (.Starred (.Call (.Name "range" p2) [a] [] p3) p :: es) ρ ((List.range n).map dN ++ ds) :=
  pa_mono (pa_starRg hc (prg_1 hg hm ha na) hr hs) fun σ H Q ⟨H0, B, e, so, q⟩ => ⟨H0, B, e, so, fun v B1 H1 g1 h1 => ⟨n, h1.int_inv, RgOk.of_le (by omega) (by omega) (by omega) (by omega), H0, B1, g1.sub, so.grow g1, fun vs B2 H2 g2 h2 => q _ B2 H2 (g1.trans g2) ((DdAll.rg n).append h2)⟩⟩
/-- list(range(n)) -/
theorem pd_listRange {n : Nat} {p2 p3 : Pos} (hc : X.calm = true) (hm : X.mg "range" = none) (hm2 : X.mg "list" = none) (ha : PD X a ρ (dN n)) (hn : n ≤ 100000) (na : starEach [a] X.env = (false, eval a X.env) :: starEach [] X.env := by rfl) (nb : starEach [.Call (.Name "range" p2) [a] [] p3] X.env = (false, eval (.Call (.Name "range" p2) [a] [] p3) X.env) :: starEach [] X.env := by rfl) (hg : Gl X "range" := by rfl) (hg2 : Gl X "list" := by rfl) :
    PD X (.Call (.Name "list" p) [.Call (.Name "range" p2) [a] [] p3] [] pos) ρ (.list ((List.range n).map dN)) :=
  pe_mono (pe_listRg hc hg2 hm2 (prg_1 hg hm ha na) nb) fun σ H Q ⟨H0, B, e, so, q⟩ => ⟨H0, B, e, so, fun v B1 H1 g1 h1 => ⟨n, h1.int_inv, RgOk.of_le (by omega) (by omega) (by omega) (by omega), fun l hl => q _ _ _ (g1.trans (.new g1.sub hl)) (.lst upd_same (.rg n))⟩⟩
/-! ### dict of pairs (number, True) -/
theorem merge_keys : ∀ (l ks : List Int), mergeK (keysV ks) (keysV l) = keysV (l.foldl putI ks)
  | [], ks => rfl
  | k :: l, ks => by
    show mergeK (putK (keysV ks) (Sum.inl k) (V.bl true)) (keysV l) = _
    rw [putK_keys, merge_keys l (putI ks k)] <;> rfl
theorem pairs_of {K : PySem.W.Frag} {B H : Hp} (e : Same B H) : ∀ {l : List Int} {xs : List V}, DdAll B xs (l.map fun k => .tuple [.int k, .bool true]) → ∃ ps : List Addr, xs = ps.map V.ref ∧ Paired (fun p kv => SqT K H p [kV kv.1, kv.2]) ps (keysV l)
  | [], xs, h => by
    cases h
    exact ⟨[], rfl, .nil⟩
  | k :: l, xs, h => by
    cases h with
    | cons h1 h2 =>
      obtain ⟨a, ys, rfl, ha, hy⟩ := h1.tup_inv
      obtain ⟨u, w, rfl, hu, hw⟩ := hy.two
      obtain ⟨ps, rfl, hp⟩ := pairs_of e h2
      rw [hu.int_inv, hw.bl_inv] at ha
      exact ⟨a :: ps, rfl, .cons (sqt e ha) hp⟩
/-- found = dict(pairs) -/
theorem sn_setDictP (j : Nat) {l : List Int} {x : Str} {px p2 p3 : Pos} (hc : X.calm = true) (hm : X.mg "dict" = none) (hN : X.N.Nodup) (ha : PD X e ρ (.list (l.map fun k => .tuple [.int k, .bool true]))) (hj : j < ρ.length := by exact Nat.le_of_ble_eq_true rfl) (hi : X.N[j]? = some x := by rfl) (hx : Loc X.env.scope x := by first | exact Or.inl rfl | exact Or.inr rfl) (hs : swapsWith (.Call (.Name "dict" p2) [e] [] p3) (some (.Name x px)) pos.line X.env = pure false := by rfl) (hf : X.fn x = true ∨ X.env.scope.names.lookup x = some .local := by first | exact .inl rfl | exact .inr rfl | assumption)
    (h1 : starEach (e :: []) X.env = (false, eval e X.env) :: starEach [] X.env := by rfl) (hg : Gl X "dict" := by rfl) : SN1 X (.Assign [.Name x px] (.Call (.Name "dict" p2) [e] [] p3) pos) ρ (ρ.set j (.dic (l.foldl putI []))) :=
  ps_mono (ps_set hN hi hx (pe_callTy (call_dictP hc) hg hm PyProof.Rows.boot_dict (pds_one ha h1) (by decide) (by decide) h1) hs hf) fun D σ H ⟨B0, H0, B, g, so, k⟩ => ⟨H0, B, g.sub, so, fun vs B1 H1 g1 h => by
    obtain ⟨v, rfl, h'⟩ := h.one
    obtain ⟨a, xs, rfl, ha, hd⟩ := h'.lst_inv
    obtain ⟨ps, rfl, hp⟩ := pairs_of (K := X.K) g1.sub hd
    refine ⟨a, ps, keysV l, rfl, SqL.of (g1.sub _ _ ha), hp, fun q hq => ?_⟩
    rw [show ([] : List (Key × V)) = keysV [] from rfl, merge_keys]
    exact k _ B1 _ ((g.trans g1).trans (.aside g1.sub hq)) g1.bb ((so.grow g1).setOwn hq ⟨q, rfl, upd_same, (g.trans g1).ext.free hq, g1.sub.free hq⟩ g1.sub hj)⟩
end
end Dc
end

section
set_option maxHeartbeats 4000000
namespace Wk
open PySem PySem.Spec PyProof.Rows L2 Dc Tx
theorem keep_sd {N : Nt.Net} (ok : Nt.Ok N) (as : List Nat) : Nt.sd (Nt.size N) (List.range N.1 ++ Nt.up N as) = Nt.keep N as :=
  (Nt.sd_eq (Nt.keep_asc N as) (fun x hx => by
    rcases List.mem_append.mp hx with z | z
    · have := List.mem_range.mp z
      unfold Nt.size
      omega
    · exact (Nt.mem_up.mp z).1) fun x => by
    rw [Nt.mem_keep, List.mem_append, List.mem_range, Nt.mem_up]
    constructor
    · rintro ⟨h1, h2 | h2⟩
      · exact .inl h2
      · exact .inr ⟨h1, h2⟩
    · rintro (h | h)
      · exact ⟨by unfold Nt.size; omega, .inl h⟩
      · exact ⟨h.1, .inr h.2⟩).symm
theorem keep_bounds {N : Nt.Net} (ok : Nt.Ok N) (as : List Nat) : (List.range N.1 ++ Nt.up N as).length ≤ 60 ∧ ∀ x ∈ List.range N.1 ++ Nt.up N as, x < Nt.size N := by
  refine ⟨?_, fun x hx => ?_⟩
  · rw [List.length_append, List.length_range]
    have h1 := Nt.asc_len (Nt.up_asc N as) fun x hx => (Nt.mem_up.mp hx).1
    have h2 := ok.size
    have h3 := ok.hi
    omega
  · rcases List.mem_append.mp hx with z | z
    · have := List.mem_range.mp z
      unfold Nt.size
      omega
    · exact (Nt.mem_up.mp z).1
theorem least {p : Nat → Prop} [DecidablePred p] : ∀ n, p n → ∃ m, p m ∧ ∀ k, k < m → ¬ p k := by
  intro n
  induction n using Nat.strongRecOn with
  | ind n ih =>
    intro h
    by_cases c : ∃ k, k < n ∧ p k
    · obtain ⟨k, h1, h2⟩ := c
      exact ih k h1 h2
    · exact ⟨n, h, fun k hk hp => c ⟨k, hk, hp⟩⟩
section
variable {P : Program} {w : World} {K : PySem.W.Frag} {mg : Str → Option Value} {base : Heap} {f : Addr} {fd : FuncData}
/-- a net and answers as one -/
def dNA (N : Nt.Net) (as : List Nat) : PyData := .tuple [dNet N, dT as]
def RNeeded : List PyData → PyData → Prop := fun ds d => ∃ N as, Nt.Ok N ∧ Nt.Ans N as ∧ ds = [dNet N, dT as] ∧ d = dNA (Nt.left N (Nt.keep N as)) (as.map ((Nt.keep N as).idxOf ·))
theorem mapT_map {α : Type} (l : List α) (g : α → Nat) : dT (l.map g) = .tuple (l.map fun a => dN (g a)) := by
  unfold dT
  rw [List.map_map] <;> rfl
theorem w_only_needed (M : Mg mg) (H1 : HNet P w K mg base) (H2 : HAns P w K mg base) (H3 : Has P w K mg base "uppers_in" 2 ["net", "answers"] (spD RUppers)) (H4 : Has P w K mg base "left" 2 ["net", "kept"] (spD RLeft)) (F : FnP K "only_needed" s_only_needed f fd) : FnOk P w K mg base CX0 4 f fd ["net", "answers"] (spD RNeeded) :=
  def_R F sc_only_needed RNeeded 2 rfl (by rintro ds d ⟨N, as, _, _, rfl, rfl⟩; rfl) (by
    rintro cdv A outer s H E ds d hr ⟨N, as, ok, an, rfl, rfl⟩
    have hf := ans_few ok an
    obtain ⟨b1, b2⟩ := keep_bounds ok as
    have C := Nt.keep_closed ok an.lt
    refine sr_cons (sn_expr (pd_call H1 hr (pds_one (pd_v 0)) ⟨N, ok, rfl, rfl⟩)) ?_
    refine sr_cons (sn_expr (pd_call H2 hr (pds_cons (pd_v 0) (pds_one (pd_v 1))) ⟨N, as, ok, an, rfl, rfl⟩)) ?_
    refine sr_cons (sn_set 2 sc_only_needed.nd (d := .list ((Nt.keep N as).map dN)) (PD.to (pd_sortSetN (ns := List.range N.1 ++ Nt.up N as) (Nt.size N) rfl M.sorted M.set (pd_lst (pds_starRange rfl M.range (pd_ixTN (pd_v 0) (pd_n 0) rfl) (by have := ok.hi; omega) (pds_star (pd_call H3 hr (pds_cons (pd_v 0) (pds_one (pd_v 1))) ⟨N, as, ok, an.lt, rfl, rfl⟩) (.inr rfl) pds_nil)) ?_) ?_ b1 b2) (by rw [keep_sd ok]))) ?_
    · rw [List.append_nil, List.length_append, List.length_map, List.length_map]
      rw [List.length_append] at b1
      omega
    · rw [List.append_nil, List.map_append]
      exact isLst
    · unfold dNA
      rw [mapT_map]
      exact sr_last (sr_ret (pd_tup (pds_cons (pd_call H4 hr (pds_cons (pd_v 0) (pds_one (pd_v 2))) ⟨N, Nt.keep N as, ok, C.kept, rfl, rfl⟩) (pds_one (pd_tuple M.tuple (pd_lcA 3 sc_only_needed.nd (pid_tup (pd_v 1)) rfl (fun o ho s H C cl fp => pd_indexN (pd_v 2) (pd_v 3) (Nt.ans_keep an.lt o ho)))))))))
noncomputable def RThinned : List PyData → PyData → Prop := fun ds d => ∃ N as, Nt.Ok N ∧ Nt.Ans N as ∧ ds = [dNet N, dT as] ∧ d = dNA (Nt.thinNet N as) (Nt.thinAns N as)
theorem w_thinned (M : Mg mg) (H1 : HNet P w K mg base) (H2 : HAns P w K mg base) (H3 : Has P w K mg base "uppers_in" 2 ["net", "answers"] (spD RUppers)) (H4 : Has P w K mg base "left" 2 ["net", "kept"] (spD RLeft)) (H5 : Has P w K mg base "needless_in" 4 ["net", "answers"] (spD RNeedless)) (H6 : Has P w K mg base "cut_in" 1 ["net", "person", "other"] (spD RCutIn)) (F : FnP K "thinned" s_thinned f fd) : FnOk P w K mg base CX0 5 f fd ["net", "answers"] (spD RThinned) :=
  def_R F sc_thinned RThinned 4 rfl (by rintro ds d ⟨N, as, _, _, rfl, rfl⟩; rfl) (by
    rintro cdv A outer s H E ds d hr ⟨N, as, ok, an, rfl, rfl⟩
    have hf := ans_few ok an
    obtain ⟨n, hn, hlt⟩ := least (p := fun k => Nt.needless (Nt.thinG as k N) as = []) 40 (Nt.thin_done ok as)
    have eT := Nt.thin_eq ok hn
    have L := fun k => Nt.like_thin ok as k
    have lt : ∀ k, ∀ a ∈ as, a < Nt.size (Nt.thinG as k N) := fun k a ha => by
      rw [(L k).size]
      exact an.lt a ha
    refine sr_cons (sn_expr (pd_call H1 hr (pds_one (pd_v 0)) ⟨N, ok, rfl, rfl⟩)) ?_
    refine sr_cons (sn_expr (pd_call H2 hr (pds_cons (pd_v 0) (pds_one (pd_v 1))) ⟨N, as, ok, an, rfl, rfl⟩)) ?_
    refine sr_cons (sn_set 2 sc_thinned.nd (pd_v 0)) ?_
    refine sr_cons (sn_set 3 sc_thinned.nd (pd_call H5 hr (pds_cons (pd_v 2) (pds_one (pd_v 1))) ⟨N, as, ok, an.lt, by omega, rfl, rfl⟩)) ?_
    refine sr_cons (sn_while n (fun i => [.dat (dNet N), .dat (dT as), .dat (dNet (Nt.thinG as i N)), .dat (.list ((Nt.needless (Nt.thinG as i N) as).map dQ)), .no, .no]) PassesOwn.never rfl (fun i hi => ?_) (fun i hi => ?_)) ?_
    · refine PTD.to (ptd_ne hr.units (pd_v 3) (pd_lst pds_nil) (Sh.shaped (n := 2) (sh_lst (sh_map fun q => sh_Q q))) rfl) ?_
      rw [eqv_nil, List.isEmpty_map]
      by_cases c : i < n
      · have hne := hlt i c
        rw [decide_eq_true c]
        cases h : Nt.needless (Nt.thinG as i N) as with
        | nil => exact absurd h hne
        | cons q r => rfl
      · have e : i = n := by omega
        rw [decide_eq_false c, e, hn] <;> rfl
    · have hne := hlt i hi
      have hst : ∃ q r, Nt.needless (Nt.thinG as i N) as = q :: r := by
        cases h : Nt.needless (Nt.thinG as i N) as with
        | nil => exact absurd h hne
        | cons q r => exact ⟨q, r, rfl⟩
      obtain ⟨q, r, hq⟩ := hst
      have es : Nt.thinG as (i + 1) N = Nt.cut (Nt.thinG as i N) q.1 q.2 := by
        show Nt.step (Nt.thinG as i N) as = _
        unfold Nt.step
        rw [hq]
      obtain ⟨q1, q2, q3, q4⟩ := Nt.mem_needless.mp (show q ∈ Nt.needless (Nt.thinG as i N) as by rw [hq]; exact List.mem_cons_self)
      rw [es, hq]
      have L1 := L (i + 1)
      have lt1 := lt (i + 1)
      rw [es] at L1 lt1
      have L0 := L i
      generalize Nt.thinG as i N = T at *
      refine sn_cons (sn_set 2 sc_thinned.nd (pd_call H6 hr (pds_cons (pd_v 2) (pds_cons (pd_ixTN (pd_ixLN (pd_v 3) (pd_n 0) (show ((q :: r).map dQ)[0]? = some (dQ q) from rfl)) (pd_n 0) (show [dN q.1, dN q.2][0]? = some (dN q.1) from rfl)) (pds_one (pd_ixTN (pd_ixLN (pd_v 3) (pd_n 0) (show ((q :: r).map dQ)[0]? = some (dQ q) from rfl)) (pd_n 1) (show [dN q.1, dN q.2][1]? = some (dN q.2) from rfl))))) ⟨T, q.1, q.2, q1, q2, L0.ok, rfl, rfl⟩)) ?_
      exact sn_one (sn_set 3 sc_thinned.nd (pd_call H5 hr (pds_cons (pd_v 2) (pds_one (pd_v 1))) ⟨Nt.cut T q.1 q.2, as, L1.ok, lt1, by omega, rfl, rfl⟩))
    · have L0 := L n
      have lt0 := lt n
      unfold Nt.thinNet Nt.thinAns
      rw [eT] at hn L0 lt0
      rw [eT, hn]
      generalize Nt.thin N as = T at *
      obtain ⟨b1, b2⟩ := keep_bounds L0.ok as
      have C := Nt.keep_closed L0.ok lt0
      have e1 : N.1 = T.1 := L0.ins.symm
      refine sr_cons (sn_set 4 sc_thinned.nd (d := .list ((Nt.keep T as).map dN)) (PD.to (pd_sortSetN (ns := List.range T.1 ++ Nt.up T as) (Nt.size T) rfl M.sorted M.set (pd_lst (pds_starRange (n := T.1) rfl M.range (PD.to (pd_ixTN (pd_v 0) (pd_n 0) rfl) (by rw [e1])) (by have := L0.ok.hi; omega) (pds_star (pd_call H3 hr (pds_cons (pd_v 2) (pds_one (pd_v 1))) ⟨T, as, L0.ok, lt0, rfl, rfl⟩) (.inr rfl) pds_nil)) ?_) ?_ b1 b2) (by rw [keep_sd L0.ok]))) ?_
      · rw [List.append_nil, List.length_append, List.length_map, List.length_map]
        rw [List.length_append] at b1
        omega
      · rw [List.append_nil, List.map_append]
        exact isLst
      · unfold dNA
        rw [mapT_map]
        exact sr_last (sr_ret (pd_tup (pds_cons (pd_call H4 hr (pds_cons (pd_v 2) (pds_one (pd_v 4))) ⟨T, Nt.keep T as, L0.ok, C.kept, rfl, rfl⟩) (pds_one (pd_tuple M.tuple (pd_lcA 5 sc_thinned.nd (pid_tup (pd_v 1)) rfl (fun o ho s H C cl fp => pd_indexN (pd_v 4) (pd_v 5) (Nt.ans_keep lt0 o ho)))))))))
def RJoined : List PyData → PyData → Prop := fun ds d => ∃ N as, Nt.Ok N ∧ Nt.Ans N as ∧ ds = [dNet N, dT as] ∧ d = dNA (Nt.joinNet N) (Nt.jnear N as)
theorem jkeep_bounds {N : Nt.Net} (ok : Nt.Ok N) : (List.range N.1 ++ Nt.firsts N).length ≤ 60 ∧ ∀ x ∈ List.range N.1 ++ Nt.firsts N, x < Nt.size N := by
  refine ⟨?_, fun x hx => ?_⟩
  · rw [List.length_append, List.length_range, Nt.firsts_len]
    have h2 := ok.size
    have h3 := ok.hi
    omega
  · rcases List.mem_append.mp hx with z | z
    · have := List.mem_range.mp z
      unfold Nt.size
      omega
    · exact Nt.firsts_lt z
theorem join_dat (N : Nt.Net) : dNet (Nt.joinNet N) = .tuple [dN N.1, .tuple (((Nt.jkeep N).drop N.1).map fun w => dT (Nt.jnear N (Nt.fr N w)))] := by
  unfold dNet Nt.joinNet
  rw [List.map_map] <;> rfl
theorem firsts_at {N : Nt.Net} {o : Nat} (h : o < Nt.size N) : ((Nt.firsts N).map dN)[o]? = some (dN ((Nt.firsts N).getD o 0)) := getD_map (by rw [Nt.firsts_len]; exact h)
theorem w_joined (M : Mg mg) (H1 : HNet P w K mg base) (H2 : HAns P w K mg base) (H3 : Has P w K mg base "paper_in" 2 ["net"] (spF RPaper)) (H4 : Has P w K mg base "friends_in" 1 ["net", "person"] (spD RFriends)) (F : FnP K "joined" s_joined f fd) : FnOk P w K mg base CX0 4 f fd ["net", "answers"] (spD RJoined) :=
  def_R F sc_joined RJoined 7 rfl (by rintro ds d ⟨N, as, _, _, rfl, rfl⟩; rfl) (by
    rintro cdv A outer s H E ds d hr ⟨N, as, ok, an, rfl, rfl⟩
    have hf := ans_few ok an
    have h9 := ok.size
    have hu := hr.un
    obtain ⟨b1, b2⟩ := jkeep_bounds ok
    have hjl := Nt.jkeep_len N
    refine sr_cons (sn_expr (pd_call H1 hr (pds_one (pd_v 0)) ⟨N, ok, rfl, rfl⟩)) ?_
    refine sr_cons (sn_expr (pd_call H2 hr (pds_cons (pd_v 0) (pds_one (pd_v 1))) ⟨N, as, ok, an, rfl, rfl⟩)) ?_
    refine sr_cons (sn_setF 2 sc_joined.nd H3 hr (pds_one (pd_v 0)) ⟨N, ok, rfl, rfl⟩) ?_
    refine sr_cons (sn_set 3 sc_joined.nd (d := .list ((Nt.firsts N).map dN)) (PD.to (pd_lcA (l := Nt.paper N) 7 sc_joined.nd (pid_tup (pd_vf 2)) rfl (fun o ho s H C cl fp => pd_tupIndex 2 (by show A.units + 3 + 65 < cLine; have : A.units + 3 + 16 * 3 + 200 < cLine := hu; omega) (pd_v 7) ho) (by rw [Nt.paper_len]; omega)) ?_)) ?_
    · unfold Nt.firsts
      rw [List.map_map] <;> rfl
    refine sr_cons (sn_set 4 sc_joined.nd (d := .list ((Nt.jkeep N).map dN)) (pd_sortSetN (ns := List.range N.1 ++ Nt.firsts N) (Nt.size N) rfl M.sorted M.set (pd_lst (pds_starRange rfl M.range (pd_ixTN (pd_v 0) (pd_n 0) rfl) (by have := ok.hi; omega) (pds_star (pd_v 3) (.inr rfl) pds_nil)) ?_) ?_ b1 b2)) ?_
    · rw [List.append_nil, List.length_append, List.length_map, List.length_map]
      rw [List.length_append] at b1
      omega
    · rw [List.append_nil, List.map_append]
      exact isLst
    refine sr_cons (sn_setNil 5 sc_joined.nd) ?_
    refine sr_cons (SN1.is (sn_for ((Nt.jkeep N).drop N.1) dN (fun i => [.dat (dNet N), .dat (dT as), .fdat (.tuple ((Nt.paper N).map dT)), .dat (.list ((Nt.firsts N).map dN)), .dat (.list ((Nt.jkeep N).map dN)), .lst ((((Nt.jkeep N).drop N.1).take i).map fun w => dT (Nt.jnear N (Nt.fr N w))), .no, .no, .no]) (fun i => [.dat (dNet N), .dat (dT as), .fdat (.tuple ((Nt.paper N).map dT)), .dat (.list ((Nt.firsts N).map dN)), .dat (.list ((Nt.jkeep N).map dN)), .lst ((((Nt.jkeep N).drop N.1).take i).map fun w => dT (Nt.jnear N (Nt.fr N w))), .dat (dN (((Nt.jkeep N).drop N.1).getD i 0)), .no, .no]) PassesOwn.never rfl
      (pid_list (pd_slL (pd_v 4) (pod_some (pd_ixTN (pd_v 0) (pd_n 0) rfl)) pod_none)) (by rw [cut_from, List.map_drop]) rfl (fun i a ha => ?_) (fun i a ha => ?_)) rfl) ?_
    · have e4 : ((Nt.jkeep N).drop N.1).getD i 0 = a := by rw [List.getD_eq_getElem?_getD, ha] <;> rfl
      rw [e4]
      exact pgd_name 6 sc_joined.nd
    · have e4 : ((Nt.jkeep N).drop N.1).getD i 0 = a := by rw [List.getD_eq_getElem?_getD, ha] <;> rfl
      have has : a < Nt.size N := (Nt.mem_sd.mp (List.mem_of_mem_drop (List.mem_of_getElem? ha))).1
      have hfl := ok.frlen a
      rw [e4]
      refine SN.is (sn_forget 6 (sn_one (sn_append 5 (d := dT (Nt.jnear N (Nt.fr N a))) (pd_tuple M.tuple (pd_sortSetN (ns := (Nt.fr N a).map fun o => (Nt.jkeep N).idxOf ((Nt.firsts N).getD o 0)) (Nt.size N) rfl M.sorted M.set (pd_lcA 8 sc_joined.nd (pid_tup (pd_call H4 hr (pds_cons (pd_v 0) (pds_one (pd_v 6))) ⟨N, a, has, rfl, rfl⟩)) rfl (fun o ho s H C cl fp => pd_indexN (pd_v 4) (pd_ixLN (pd_v 3) (pd_v 8) (firsts_at (Nt.fr_lt ok ho))) (Nt.firsts_keep (Nt.firsts_get (Nt.fr_lt ok ho))))) ?_ ?_ ?_)) ?_))) ?_
      · rw [List.map_map]
        exact isLst
      · rw [List.length_map]; omega
      · intro x hx
        obtain ⟨o, ho, rfl⟩ := List.mem_map.mp hx
        exact Nt.jidx_lt (Nt.fr_lt ok ho)
      · rw [List.length_map, List.length_take]
        have := List.length_drop (i := N.1) (l := Nt.jkeep N)
        omega
      · rw [List.take_add_one, ha, List.map_append] <;> rfl
    · rw [List.take_length]
      unfold dNA
      rw [join_dat]
      refine sr_last (sr_ret (pd_tup (pds_cons (pd_tup (pds_cons (pd_ixTN (pd_v 0) (pd_n 0) rfl) (pds_one (pd_tupleOwn 5 M.tuple)))) (pds_one (pd_tuple M.tuple (pd_sortSetN (ns := as.map fun o => (Nt.jkeep N).idxOf ((Nt.firsts N).getD o 0)) (Nt.size N) rfl M.sorted M.set (pd_lcA 6 sc_joined.nd (pid_tup (pd_v 1)) rfl (fun o ho s H C cl fp => pd_indexN (pd_v 4) (pd_ixLN (pd_v 3) (pd_v 6) (firsts_at (an.lt o ho))) (Nt.firsts_keep (Nt.firsts_get (an.lt o ho))))) ?_ ?_ ?_))))))
      · rw [List.map_map]
        exact isLst
      · rw [List.length_map]; omega
      · intro x hx
        obtain ⟨o, ho, rfl⟩ := List.mem_map.mp hx
        exact Nt.jidx_lt (an.lt o ho))
end
end Wk
end

section
set_option maxHeartbeats 4000000
namespace Wk
open PySem PySem.Spec PyProof.Rows L2 Dc Tx
theorem foldl_putI : ∀ (l ks : List Nat), (l.map Int.ofNat).foldl putI (ks.map Int.ofNat) = (Nt.puts ks l).map Int.ofNat
  | [], ks => rfl
  | k :: l, ks => by
    show (l.map Int.ofNat).foldl putI (putI (ks.map Int.ofNat) (k : Int)) = _
    rw [putI_put, foldl_putI l (Nt.put ks k)] <;> rfl
section
variable {P : Program} {w : World} {K : PySem.W.Frag} {mg : Str → Option Value} {base : Heap} {f : Addr} {fd : FuncData}
theorem w_L_bits (M : Mg mg) (F : FnP K "_law_bits" s_L_bits f fd) : FnOk P w K mg base CX0 1 f fd ["_law_size"] (spD RBits) :=
  def_R F sc_L_bits RBits 4 rfl (by rintro ds d ⟨n, hn, rfl, rfl⟩; rfl) (by
    rintro cdv A outer s H E ds d hr ⟨n, hn, rfl, rfl⟩
    refine sr_cons (SN1.is (sn_set 1 sc_L_bits.nd (pd_lst (pds_one (pd_tup pds_nil)))) (ρ2 := [.dat (dN n), .dat (.list ((Nt.bits 0).map dT)), .no, .no, .no]) rfl) ?_
    refine sr_cons (SN1.is (sn_for (List.range n) dN (fun i => [.dat (dN n), .dat (.list ((Nt.bits i).map dT)), .no, .no, .no]) (fun i => [.dat (dN n), .dat (.list ((Nt.bits i).map dT)), .dat (dN i), .no, .no]) PassesOwn.never rfl (pid_range1 M.range (pd_v 0) (by omega)) rfl rfl (fun i a ha => ?_) (fun i a ha => ?_)) rfl) ?_
    · obtain ⟨hi, rfl⟩ := range_at ha
      exact pgd_name 2 sc_L_bits.nd
    · obtain ⟨hi, rfl⟩ := range_at ha
      have few := bits_small hn (Nat.le_of_lt hi)
      refine SN.is (sn_forget 2 (sn_forget 3 (sn_forget 4 (sn_cons (sn_set 3 sc_L_bits.nd (pd_lst pds_nil)) (sn_cons (SN1.is (sn_for (Nt.bits a) dT (fun j => [.dat (dN n), .dat (.list ((Nt.bits a).map dT)), .dat (dN a), .dat (.list ((((Nt.bits a).take j).flatMap fun b => [b ++ [0], b ++ [1]]).map dT)), .no]) (fun j => [.dat (dN n), .dat (.list ((Nt.bits a).map dT)), .dat (dN a), .dat (.list ((((Nt.bits a).take j).flatMap fun b => [b ++ [0], b ++ [1]]).map dT)), .dat (dT ((Nt.bits a).getD j []))]) PassesOwn.never rfl (pid_list (pd_v 1)) rfl rfl (fun j b hb => ?_) (fun j b hb => ?_)) rfl) (sn_one (sn_set 1 sc_L_bits.nd (pd_v 3)))))))) (by rw [List.take_length]; rfl)
      · have e4 : (Nt.bits a).getD j [] = b := by rw [List.getD_eq_getElem?_getD, hb] <;> rfl
        rw [e4]
        exact pgd_name 4 sc_L_bits.nd
      · have e4 : (Nt.bits a).getD j [] = b := by rw [List.getD_eq_getElem?_getD, hb] <;> rfl
        have hbl := Nt.bits_len (List.mem_of_getElem? hb)
        rw [e4, take_flat hb]
        have hl : ((((Nt.bits a).take j).flatMap fun b => [b ++ [0], b ++ [1]]).map dT).length ≤ 16 := by
          rw [List.length_map]
          have := flat_len (l := (Nt.bits a).take j) (f := fun b => [b ++ [0], b ++ [1]]) (c := 2) fun _ _ => Nat.le_refl _
          rw [List.length_take] at this
          have h7 : min j (Nt.bits a).length * 2 ≤ 8 * 2 := Nat.mul_le_mul_right _ (by omega)
          omega
        refine SN.is (sn_forget 4 (sn_one (sn_set 3 sc_L_bits.nd (pd_catL (pd_v 3) (pd_lst (pds_cons (pd_catT (pd_v 4) (pd_tup (pds_one (pd_n 0))) ?_) (pds_one (pd_catT (pd_v 4) (pd_tup (pds_one (pd_n 1))) ?_)))) ?_)))) ?_
        · rw [List.length_map, hbl]; show a + 1 ≤ _; omega
        · rw [List.length_map, hbl]; show a + 1 ≤ _; omega
        · show _ + 2 ≤ _; omega
        · have e5 : (([b ++ [0], b ++ [1]] : List (List Nat)).map dT) = [PyData.tuple (b.map dN ++ [dN 0]), PyData.tuple (b.map dN ++ [dN 1])] := by
            show [dT (b ++ [0]), dT (b ++ [1])] = _
            unfold dT
            rw [List.map_append, List.map_append] <;> rfl
          rw [List.map_append, e5] <;> rfl
    · rw [List.length_range]
      exact sr_last (sr_ret (pd_v 1)))
theorem tell_dat (acc g : List Nat) : ((g.filter fun o => acc.getD o 0 == 1).isEmpty).toNat = Nt.tell acc g := by
  unfold Nt.tell
  cases h : g.any fun o => acc.getD o 0 == 1 with
  | true =>
    rw [if_pos rfl]
    obtain ⟨o, ho, e⟩ := List.any_eq_true.mp h
    cases hf : g.filter fun o => acc.getD o 0 == 1 with
    | nil =>
      have : o ∈ g.filter fun o => acc.getD o 0 == 1 := List.mem_filter.mpr ⟨ho, e⟩
      rw [hf] at this
      cases this
    | cons x r => rfl
  | false =>
    rw [if_neg Bool.false_ne_true]
    have : g.filter (fun o => acc.getD o 0 == 1) = [] := List.filter_eq_nil_iff.mpr fun o ho z => by
      have h2 : (g.any fun o => acc.getD o 0 == 1) = true := List.any_eq_true.mpr ⟨o, ho, z⟩
      rw [h] at h2
      cases h2
    rw [this] <;> rfl
theorem w_L_end (M : Mg mg) (F : FnP K "_law_end" s_L_end f fd) : FnOk P w K mg base CX0 1 f fd ["_law_net_here", "_law_bits_here"] (spD RStand) :=
  def_R F sc_L_end RStand 3 rfl (by rintro ds d ⟨N, b, _, _, rfl, rfl⟩; rfl) (by
    rintro cdv A outer s H E ds d hr ⟨N, b, ok, hb, rfl, rfl⟩
    have few := ok.few
    have hi := ok.hi
    refine sr_cons (sn_setList 2 M.list sc_L_end.nd (pd_v 1) isTup) ?_
    refine sr_cons (SN1.is (sn_for N.2 dT (fun i => [.dat (dNet N), .dat (dT b), .lst ((Nt.stand (N.2.take i) b).map dN), .no, .no]) (fun i => [.dat (dNet N), .dat (dT b), .lst ((Nt.stand (N.2.take i) b).map dN), .dat (dT (N.2.getD i [])), .no]) PassesOwn.never rfl (pid_tup (pd_ixTN (pd_v 0) (pd_n 1) rfl)) rfl rfl (fun i a ha => ?_) (fun i a ha => ?_)) rfl) ?_
    · have e4 : N.2.getD i [] = a := by rw [List.getD_eq_getElem?_getD, ha] <;> rfl
      rw [e4]
      exact pgd_name 3 sc_L_end.nd
    · have hil := (List.getElem?_eq_some_iff.mp ha).1
      have e4 : N.2.getD i [] = N.2[i] := by rw [List.getD_eq_getElem?_getD, List.getElem?_eq_getElem hil] <;> rfl
      rw [e4]
      have less : ∀ o ∈ N.2[i], o < N.1 + i := fun o ho => ok.at_less hil ho
      have hlen := Nt.asc_len (ok.at_asc hil) less
      have sl : (Nt.stand (N.2.take i) b).length = N.1 + i := by rw [Nt.stand_len, List.length_take, hb]; omega
      refine SN.is (sn_forget 3 (sn_one (sn_append 2 (d := dN (Nt.tell (Nt.stand (N.2.take i) b) N.2[i])) (PD.to (pd_intBN M.int (pd_eq hr.units (pd_lcF (f := fun o => (Nt.stand (N.2.take i) b).getD o 0 == 1) 4 sc_L_end.nd (pid_tup (pd_v 3)) rfl (fun o ho s H C cl fp => ptd_eqN hr.units (pd_ownIx 2 (pd_v 4) (Dc.atI_nat (getD_map (by have := less o ho; omega)))) (pd_n 1)) (fun o ho hh s H C cl fp => pd_v 4)) (pd_lst pds_nil) (sh_L _).shaped rfl)) ?_) ?_))) ?_
      · rw [eqv_nil, List.isEmpty_map, tell_dat]
      · rw [List.length_map, sl]; omega
      · rw [stand_take hil, List.map_append] <;> rfl
    · rw [List.take_length]
      exact sr_last (sr_ret (pd_tupleOwn 2 M.tuple)))
theorem w_L_paper (M : Mg mg) (H1 : Has P w K mg base "_law_end" 1 ["_law_net_here", "_law_bits_here"] (spD RStand)) (H2 : Has P w K mg base "_law_bits" 1 ["_law_size"] (spD RBits)) (F : FnP K "_law_paper" s_L_paper f fd) : FnOk P w K mg base CX0 2 f fd ["_law_net_here"] (spF RPaper) :=
  def_F F sc_L_paper RPaper 4 rfl (by rintro ds d ⟨N, _, rfl, rfl⟩; rfl) (by
    rintro cdv A outer s H E ds d hr ⟨N, ok, rfl, rfl⟩
    have few := bits_small ok.hi (Nat.le_refl _)
    have h9 := ok.size
    refine sf_cons (sn_set 1 sc_L_paper.nd (d := .list ((Nt.bits N.1).map fun b => dT (Nt.stand N.2 b))) (pd_lcA 2 sc_L_paper.nd (pid_list (pd_call H2 hr (pds_one (pd_ixTN (pd_v 0) (pd_n 0) rfl)) ⟨N.1, ok.hi, rfl, rfl⟩)) rfl ?_)) ?_
    · intro b hb s H C cl fp
      exact pd_call H1 hr (pds_cons (pd_v 0) (pds_one (pd_v 2))) ⟨N, b, ok, Nt.bits_len hb, rfl, rfl⟩
    · rw [paper_dat]
      refine sf_last (sf_ret M.tuple (pd_lcA (l := List.range (Nt.size N)) 3 sc_L_paper.nd (pid_range1 M.range (pd_addN (pd_ixTN (pd_v 0) (pd_n 0) rfl) (pd_lenN M.len (pd_ixTN (pd_v 0) (pd_n 1) rfl) isTup (List.length_map ..))) (by unfold Nt.size at h9; omega)) rfl ?_ (by rw [List.length_range]; omega)))
      intro p hp s H C cl fp
      have hp' := List.mem_range.mp hp
      refine pd_tuple M.tuple (pd_lcA (l := (Nt.bits N.1).map (Nt.stand N.2)) 4 sc_L_paper.nd (pid_list (pd_v 1)) (show (List.map (fun b => dT (Nt.stand N.2 b)) (Nt.bits N.1)) = ((Nt.bits N.1).map (Nt.stand N.2)).map dT by rw [List.map_map]; rfl) ?_ (by rw [List.length_map]; omega))
      intro e he s H C cl fp
      obtain ⟨b, hb, rfl⟩ := List.mem_map.mp he
      exact pd_ixTN (pd_v 4) (pd_v 3) (getD_map (by rw [Nt.stand_len, Nt.bits_len hb]; exact hp')))
theorem w_L_left (M : Mg mg) (F : FnP K "_law_left" s_L_left f fd) : FnOk P w K mg base CX0 1 f fd ["_law_net_here", "_law_kept"] (spD RLeft) :=
  def_R F sc_L_left RLeft 3 rfl (by rintro ds d ⟨N, l, _, _, rfl, rfl⟩; rfl) (by
    rintro cdv A outer s H E ds d hr ⟨N, l, ok, kp, rfl, rfl⟩
    have h9 := ok.size
    have hl := Nt.asc_len kp.asc kp.lt
    refine sr_cons (sn_setNil 2 sc_L_left.nd) ?_
    refine sr_cons (SN1.is (sn_for (l.drop N.1) dN (fun i => [.dat (dNet N), .dat (.list (l.map dN)), .lst (((l.drop N.1).take i).map fun w => dT (leftAt N l w)), .no, .no]) (fun i => [.dat (dNet N), .dat (.list (l.map dN)), .lst (((l.drop N.1).take i).map fun w => dT (leftAt N l w)), .dat (dN ((l.drop N.1).getD i 0)), .no]) PassesOwn.never rfl
      (pid_list (pd_slL (pd_v 1) (pod_some (pd_ixTN (pd_v 0) (pd_n 0) rfl)) pod_none)) (by rw [cut_from, List.map_drop]) rfl (fun i a ha => ?_) (fun i a ha => ?_)) rfl) ?_
    · have e4 : (l.drop N.1).getD i 0 = a := by rw [List.getD_eq_getElem?_getD, ha] <;> rfl
      rw [e4]
      exact pgd_name 3 sc_L_left.nd
    · have e4 : (l.drop N.1).getD i 0 = a := by rw [List.getD_eq_getElem?_getD, ha] <;> rfl
      have had : a ∈ l.drop N.1 := List.mem_of_getElem? ha
      have hal := (Nt.mem_drop_low kp.asc kp.low).mp had
      have has := kp.lt a hal.1
      have hfl := ok.frlen a
      rw [e4]
      refine SN.is (sn_forget 3 (sn_one (sn_append 2 (d := dT (leftAt N l a)) (pd_tuple M.tuple (PD.to (pd_lcF 4 sc_L_left.nd (pid_tup (pd_ixTN (pd_ixTN (pd_v 0) (pd_n 1) rfl) (pd_subN (pd_v 3) (pd_ixTN (pd_v 0) (pd_n 0) rfl) hal.2) (fr_dat hal.2 has))) rfl (fun o ho s H C cl fp => ptd_inN (pd_v 4) (pd_v 1) isLst) (fun o ho hh s H C cl fp => pd_indexN (pd_v 1) (pd_v 4) (of_decide_eq_true hh))) ?_)) ?_))) ?_
      · unfold leftAt
        rw [filter_mem, List.map_map] <;> rfl
      · rw [List.length_map, List.length_take]
        have := List.length_drop (i := N.1) (l := l)
        omega
      · rw [List.take_add_one, ha, List.map_append] <;> rfl
    · rw [List.take_length, left_dat]
      exact sr_last (sr_ret (pd_tup (pds_cons (pd_ixTN (pd_v 0) (pd_n 0) rfl) (pds_one (pd_tupleOwn 2 M.tuple))))))
theorem w_L_cut (M : Mg mg) (F : FnP K "_law_cut" s_L_cut f fd) : FnOk P w K mg base CX0 1 f fd ["_law_net_here", "_law_who", "_law_other"] (spD RCutIn) :=
  def_R F sc_L_cut RCutIn 2 rfl (by rintro ds d ⟨N, p, o, _, _, _, rfl, rfl⟩; rfl) (by
    rintro cdv A outer s H E ds d hr ⟨N, p, o, h1, h2, ok, rfl, rfl⟩
    have hl := ok.frlen p
    have h9 := ok.size
    have few := ok.few
    refine sr_cons (sn_set 3 sc_L_cut.nd (pd_subN (pd_v 1) (pd_ixTN (pd_v 0) (pd_n 0) rfl) h1)) ?_
    unfold dNet
    rw [← cut_dat h1 h2]
    refine sr_last (sr_ret (pd_tup (pds_cons (pd_ixTN (pd_v 0) (pd_n 0) rfl) (pds_one (PD.to (pd_catT (pd_catT (pd_slT (pd_ixTN (pd_v 0) (pd_n 1) rfl) pod_none (pod_some (pd_v 3))) (pd_tup (pds_one (pd_tuple M.tuple (pd_lcF (f := fun x => x != o) 4 sc_L_cut.nd (pid_tup (pd_ixTN (pd_ixTN (pd_v 0) (pd_n 1) rfl) (pd_v 3) (fr_dat h1 h2))) rfl (fun a ha s H C cl fp => ptd_neN hr.units (pd_v 4) (pd_v 2)) (fun a ha hh s H C cl fp => pd_v 4))))) ?_) (pd_slT (pd_ixTN (pd_v 0) (pd_n 1) rfl) (pod_some (pd_addN (pd_v 3) (pd_n 1))) pod_none) ?_) ?_)))))
    · rw [cut_to, List.length_take, List.length_map]
      show _ + 1 ≤ _
      omega
    · rw [cut_to, cut_from, List.length_append, List.length_take, List.length_drop, List.length_map]
      show _ + 1 + _ ≤ _
      omega
    · rw [cut_to, cut_from] <;> rfl)
def RKeep : List PyData → PyData → Prop := fun ds d => ∃ N as, Nt.Ok N ∧ (∀ a ∈ as, a < Nt.size N) ∧ as.length ≤ 60 ∧ ds = [dNet N, dT as] ∧ d = .list ((Nt.keep N as).map dN)
theorem w_L_upper (M : Mg mg) (F : FnP K "_law_upper" s_L_upper f fd) : FnOk P w K mg base CX0 1 f fd ["_law_net_here", "_law_answers_here"] (spD RKeep) :=
  def_R F sc_L_upper RKeep 4 rfl (by rintro ds d ⟨N, as, _, _, _, rfl, rfl⟩; rfl) (by
    rintro cdv A outer s H E ds d hr ⟨N, as, ok, lt, few, rfl, rfl⟩
    have h9 := ok.size
    have h3 := ok.hi
    have h6 := ok.few
    have hu := hr.un
    refine sr_cons (SN1.is (sn_setDictP 3 (l := (as ++ List.range N.1).map Int.ofNat) rfl M.dict sc_L_upper.nd (PD.to (pd_lcA (l := as ++ List.range N.1) 2 sc_L_upper.nd (pid_list (pd_catL (pd_list M.list (pd_v 1) isTup) (pd_listRange rfl M.range M.list (pd_ixTN (pd_v 0) (pd_n 0) rfl) (by omega)) ?_)) (by rw [List.map_append]) (fun o ho s H C cl fp => pd_tup (pds_cons (pd_v 2) (pds_one pd_bl))) ?_) ?_)) (ρ2 := [.dat (dNet N), .dat (dT as), .no, .dic ((Nt.lpass N as 0).map Int.ofNat), .no, .no]) ?_) ?_
    · rw [List.length_map, List.length_map, List.length_range]; omega
    · rw [List.length_append, List.length_range]; omega
    · rw [List.map_map] <;> rfl
    · rw [show ([] : List Int) = ([] : List Nat).map Int.ofNat from rfl, foldl_putI] <;> rfl
    refine sr_cons (SN1.is (sn_for (List.range 12) dN (fun i => [.dat (dNet N), .dat (dT as), .no, .dic ((Nt.lpass N as i).map Int.ofNat), .no, .no]) (fun i => [.dat (dNet N), .dat (dT as), .no, .dic ((Nt.lpass N as i).map Int.ofNat), .dat (dN i), .no]) PassesOwn.never rfl (pid_range1 (n := 12) M.range (pd_n 12) (by omega)) rfl rfl (fun i a ha => ?_) (fun i a ha => ?_)) rfl) ?_
    · obtain ⟨hi, rfl⟩ := range_at ha
      exact pgd_name 4 sc_L_upper.nd
    · obtain ⟨hi, rfl⟩ := range_at ha
      obtain ⟨f1, f2, f3⟩ := Nt.lpass_few ok lt a
      have e : Nt.lpass N as (a + 1) = Nt.lfold N (Nt.lpass N as a) (Nt.sd (Nt.size N) (Nt.lpass N as a)) := rfl
      have pm := (Nt.few_keys f1 f3).2
      rw [e]
      have fewk : ∀ (l g : List Nat), (∀ x ∈ g, x < Nt.size N) → (Nt.puts (Nt.lfold N (Nt.lpass N as a) l) g).length ≤ 9 := fun l g hg => by
        rcases Nt.lpart_few ok lt a (l := l) hg with z | ⟨w, _, o, ho, hle⟩
        · exact z
        · have := Nt.fr_lt ok ho
          omega
      generalize Nt.lpass N as a = ks at *
      refine SN.is (sn_forget 4 (sn_forget 2 (sn_one (SN1.is (sn_for (Nt.sd (Nt.size N) ks) dN (fun i => [.dat (dNet N), .dat (dT as), .no, .dic ((Nt.lfold N ks ((Nt.sd (Nt.size N) ks).take i)).map Int.ofNat), .dat (dN a), .no]) (fun i => [.dat (dNet N), .dat (dT as), .dat (dN ((Nt.sd (Nt.size N) ks).getD i 0)), .dic ((Nt.lfold N ks ((Nt.sd (Nt.size N) ks).take i)).map Int.ofNat), .dat (dN a), .no]) PassesOwn.never rfl
        (pid_list (pd_sortDic 3 ((Nt.sd (Nt.size N) ks).map Int.ofNat) rfl M.sorted M.list (by rw [List.length_map]; omega) (pm.map _) (List.pairwise_map.mpr ((Nt.sd_asc (Nt.size N) ks).imp fun h => Int.ofNat_le.mpr (Nat.le_of_lt h))))) (by rw [mapN]) rfl (fun i x hx => ?_) (fun i x hx => ?_)) rfl)))) (by rw [List.take_length] <;> rfl)
      · have e4 : (Nt.sd (Nt.size N) ks).getD i 0 = x := by rw [List.getD_eq_getElem?_getD, hx] <;> rfl
        rw [e4]
        exact pgd_name 2 sc_L_upper.nd
      · have hil := (List.getElem?_eq_some_iff.mp hx).1
        have ex : (Nt.sd (Nt.size N) ks)[i] = x := (List.getElem?_eq_some_iff.mp hx).2
        have e4 : (Nt.sd (Nt.size N) ks).getD i 0 = x := by rw [List.getD_eq_getElem?_getD, hx] <;> rfl
        rw [e4, Nt.lfold_take hil, ex]
        have hxs : x < Nt.size N := (Nt.mem_sd.mp (List.mem_of_getElem? hx)).1
        have fewk2 := fun g hg => fewk ((Nt.sd (Nt.size N) ks).take i) g hg
        generalize Nt.lfold N ks ((Nt.sd (Nt.size N) ks).take i) = cs at *
        refine SN.is (sn_forget 2 (sn_forget 5 (sn_one (sn_if (ρ1 := [.dat (dNet N), .dat (dT as), .dat (dN x), .dic ((Nt.puts cs (Nt.fr N x)).map Int.ofNat), .dat (dN a), .no]) (ptd_geN (pd_v 2) (pd_ixTN (pd_v 0) (pd_n 0) rfl)) (fun h => ?_) (fun h => ?_))))) rfl
        · have hge := of_decide_eq_true h
          refine SN.is (sn_forget 5 (sn_one (SN1.is (sn_for (Nt.fr N x) dN (fun i => [.dat (dNet N), .dat (dT as), .dat (dN x), .dic ((Nt.puts cs ((Nt.fr N x).take i)).map Int.ofNat), .dat (dN a), .no]) (fun i => [.dat (dNet N), .dat (dT as), .dat (dN x), .dic ((Nt.puts cs ((Nt.fr N x).take i)).map Int.ofNat), .dat (dN a), .dat (dN ((Nt.fr N x).getD i 0))]) PassesOwn.never rfl
            (pid_tup (pd_ixTN (pd_ixTN (pd_v 0) (pd_n 1) rfl) (pd_subN (pd_v 2) (pd_ixTN (pd_v 0) (pd_n 0) rfl) hge) (fr_dat hge hxs))) rfl rfl (fun j o ho => ?_) (fun j o ho => ?_)) rfl))) (by rw [List.take_length] <;> rfl)
          · have e5 : (Nt.fr N x).getD j 0 = o := by rw [List.getD_eq_getElem?_getD, ho] <;> rfl
            rw [e5]
            exact pgd_name 5 sc_L_upper.nd
          · have hjl := (List.getElem?_eq_some_iff.mp ho).1
            have eo : (Nt.fr N x)[j] = o := (List.getElem?_eq_some_iff.mp ho).2
            have e5 : (Nt.fr N x).getD j 0 = o := by rw [List.getD_eq_getElem?_getD, ho] <;> rfl
            rw [e5, Nt.puts_take hjl, eo]
            have fw := fewk2 ((Nt.fr N x).take j) fun y hy => Nt.fr_lt ok (List.mem_of_mem_take hy)
            refine SN.is (sn_forget 5 (sn_one (sn_dput 3 (n := (o : Int)) (by show A.units + 3 + 1 < cLine; have : A.units + 3 + 16 * 0 + 200 < cLine := hu; omega) (pd_v 5) ?_))) ?_
            · rw [List.length_map]; omega
            · rw [putI_put] <;> rfl
        · have hge := of_decide_eq_false h
          rw [Nt.fr_in (by omega)]
          exact sn_nil
    · rw [List.length_range]
      obtain ⟨f1, f2, f3⟩ := Nt.lpass_few ok lt 12
      refine sr_last (sr_ret (PD.to (pd_sortDic 3 ((Nt.keep N as).map Int.ofNat) rfl M.sorted M.list (by rw [List.length_map]; omega) ((Nt.lpass_keep ok lt).map _) (List.pairwise_map.mpr ((Nt.keep_asc N as).imp fun h => Int.ofNat_le.mpr (Nat.le_of_lt h)))) (by rw [mapN]))))
end
end Wk
end

section
set_option maxHeartbeats 4000000
namespace Wk
open PySem PySem.Spec PyProof.Rows L2 Dc Tx
theorem kb_it : kitB "int" "tuple" = some false := by decide +kernel
theorem kb_il : kitB "int" "list" = some false := by decide +kernel
theorem kb_is : kitB "int" "str" = some false := by decide +kernel
theorem kb_bt : kitB "bool" "tuple" = some false := by decide +kernel
theorem kb_bl : kitB "bool" "list" = some false := by decide +kernel
theorem kb_bs : kitB "bool" "str" = some false := by decide +kernel
theorem kb_bi : kitB "bool" "int" = some true := by decide +kernel
theorem kb_bb : kitB "bool" "bool" = some true := by decide +kernel
theorem kb_nt : kitB "NoneType" "tuple" = some false := by decide +kernel
theorem kb_nl : kitB "NoneType" "list" = some false := by decide +kernel
theorem kb_ns : kitB "NoneType" "str" = some false := by decide +kernel
theorem kb_tl : kitB "tuple" "list" = some false := by decide +kernel
/-- numbers, bools, None and tuples of such -/
inductive Pl : Nat → PyData → Prop
  | int {n : Nat} (i : Int) : Pl n (.int i)
  | bl {n : Nat} (b : Bool) : Pl n (.bool b)
  | non {n : Nat} : Pl n .none
  | tup {n : Nat} {ds : List PyData} : (∀ d ∈ ds, Pl n d) → ds.length ≤ 1000 → Pl (n + 1) (.tuple ds)
theorem Pl.up {n : Nat} {d : PyData} (h : Pl n d) : ∀ {m : Nat}, n ≤ m → Pl m d := by
  induction h with
  | int i => exact fun _ => .int i
  | bl b => exact fun _ => .bl b
  | non => exact fun _ => .non
  | tup h z ih =>
    intro m hm
    cases m with
    | zero => omega
    | succ m => exact .tup (fun d hd => ih d hd (by omega)) z
theorem ptd_isN {X : Cx} {ρ : Dc.Env} {a : Expr} {d : PyData} {pos pos' : Pos} {j} (ha : PD X a ρ d) : PTD X (.Compare a [.Is] [.Constant .none j pos'] pos) ρ (isNone d) :=
  ptd_cmp op_isN (fun x y B H Q e k1 k2 q => ⟨k2.non_inv, by rw [k1.none_iff]; exact q _ B H (.refl e) (.bl _)⟩) ha pd_non (nomark _)
theorem ptd_notN {X : Cx} {ρ : Dc.Env} {a : Expr} {d : PyData} {pos pos' : Pos} {j} (ha : PD X a ρ d) : PTD X (.Compare a [.IsNot] [.Constant .none j pos'] pos) ρ (!isNone d) :=
  ptd_cmp op_notN (fun x y B H Q e k1 k2 q => ⟨k2.non_inv, by rw [k1.none_iff]; exact q _ B H (.refl e) (.bl _)⟩) ha pd_non (nomark _)
section
variable {P : Program} {w : World} {K : PySem.W.Frag} {mg : Str → Option Value} {base : Heap} {f : Addr} {fd : FuncData}
def RAlike (n : Nat) : List PyData → PyData → Prop := fun ds d => ∃ v, Pl n v ∧ ds = [v, v] ∧ d = .bool true
theorem w_L_alike (M : Mg mg) (F : FnP K "_law_alike" s_L_alike f fd) (hk : ∀ k sp, FnOk P w K mg base CX0 k f fd ["_law_found", "_law_due"] sp → Has P w K mg base "_law_alike" k ["_law_found", "_law_due"] sp) : ∀ n, FnOk P w K mg base CX0 (n + 1) f fd ["_law_found", "_law_due"] (spD (RAlike n)) := by
  intro n
  induction n with
  | zero =>
    refine def_R F sc_L_alike (RAlike 0) 1 rfl (by rintro ds d ⟨v, _, rfl, rfl⟩; rfl) ?_
    rintro cdv A outer s H E ds d hr ⟨v, hv, rfl, rfl⟩
    cases hv with
    | int i =>
      refine sr_when (ptd_val (pd_isi2 M.isinstance M.tuple M.list PyProof.Rows.boot_tuple PyProof.Rows.boot_list (pd_v 1) (by exact kb_it) (by exact kb_il))) (fun h => by cases h) fun _ => ?_
      refine sr_when (PW.pt (pwd_or (ptd_isN (pd_v 1)) fun _ => pwd_or1 (ptd_val (pd_isi M.isinstance M.str PyProof.Rows.boot_str (pd_v 1) (by exact kb_is))))) (fun h => by cases h) fun _ => ?_
      apply SR.is
      · exact sr_last (sr_ret (pd_and (pd_isi M.isinstance M.int PyProof.Rows.boot_int (pd_v 0) (by exact kb_ii)) fun _ => pd_and (pd_eq hr.units (pd_isi M.isinstance M.bool PyProof.Rows.boot_bool (pd_v 0) (by exact kb_ib)) (pd_isi M.isinstance M.bool PyProof.Rows.boot_bool (pd_v 1) (by exact kb_ib)) rfl rfl) fun _ => pd_one (pd_eq hr.units (pd_v 0) (pd_v 1) rfl rfl)))
      · rw [Sh.refl (n := 0) (sh_int i)] <;> rfl
    | bl b =>
      refine sr_when (ptd_val (pd_isi2 M.isinstance M.tuple M.list PyProof.Rows.boot_tuple PyProof.Rows.boot_list (pd_v 1) (by exact kb_bt) (by exact kb_bl))) (fun h => by cases h) fun _ => ?_
      refine sr_when (PW.pt (pwd_or (ptd_isN (pd_v 1)) fun _ => pwd_or1 (ptd_val (pd_isi M.isinstance M.str PyProof.Rows.boot_str (pd_v 1) (by exact kb_bs))))) (fun h => by cases h) fun _ => ?_
      apply SR.is
      · exact sr_last (sr_ret (pd_and (pd_isi M.isinstance M.int PyProof.Rows.boot_int (pd_v 0) (by exact kb_bi)) fun _ => pd_and (pd_eq hr.units (pd_isi M.isinstance M.bool PyProof.Rows.boot_bool (pd_v 0) (by exact kb_bb)) (pd_isi M.isinstance M.bool PyProof.Rows.boot_bool (pd_v 1) (by exact kb_bb)) rfl rfl) fun _ => pd_one (pd_eq hr.units (pd_v 0) (pd_v 1) rfl rfl)))
      · rw [Sh.refl (n := 0) (sh_bool b)] <;> rfl
    | non =>
      refine sr_when (ptd_val (pd_isi2 M.isinstance M.tuple M.list PyProof.Rows.boot_tuple PyProof.Rows.boot_list (pd_v 1) (by exact kb_nt) (by exact kb_nl))) (fun h => by cases h) fun _ => ?_
      refine sr_when (PW.pt (pwd_or (ptd_isN (pd_v 1)) fun _ => pwd_or1 (ptd_val (pd_isi M.isinstance M.str PyProof.Rows.boot_str (pd_v 1) (by exact kb_ns))))) (fun _ => ?_) (fun h => by cases h)
      apply SR.is
      · exact sr_last (sr_ret (pd_and (pd_eq hr.units (pd_v 0) (pd_v 1) rfl rfl) fun _ => pd_one (pd_eq hr.units (pd_isi M.isinstance M.str PyProof.Rows.boot_str (pd_v 0) (by exact kb_ns)) (pd_isi M.isinstance M.str PyProof.Rows.boot_str (pd_v 1) (by exact kb_ns)) rfl rfl)))
      · rfl
  | succ n ih =>
    have Hs := hk _ _ ih
    refine def_R F sc_L_alike (RAlike (n + 1)) 1 rfl (by rintro ds d ⟨v, _, rfl, rfl⟩; rfl) ?_
    rintro cdv A outer s H E ds d hr ⟨v, hv, rfl, rfl⟩
    cases hv with
    | int i =>
      refine sr_when (ptd_val (pd_isi2 M.isinstance M.tuple M.list PyProof.Rows.boot_tuple PyProof.Rows.boot_list (pd_v 1) (by exact kb_it) (by exact kb_il))) (fun h => by cases h) fun _ => ?_
      refine sr_when (PW.pt (pwd_or (ptd_isN (pd_v 1)) fun _ => pwd_or1 (ptd_val (pd_isi M.isinstance M.str PyProof.Rows.boot_str (pd_v 1) (by exact kb_is))))) (fun h => by cases h) fun _ => ?_
      apply SR.is
      · exact sr_last (sr_ret (pd_and (pd_isi M.isinstance M.int PyProof.Rows.boot_int (pd_v 0) (by exact kb_ii)) fun _ => pd_and (pd_eq hr.units (pd_isi M.isinstance M.bool PyProof.Rows.boot_bool (pd_v 0) (by exact kb_ib)) (pd_isi M.isinstance M.bool PyProof.Rows.boot_bool (pd_v 1) (by exact kb_ib)) rfl rfl) fun _ => pd_one (pd_eq hr.units (pd_v 0) (pd_v 1) rfl rfl)))
      · rw [Sh.refl (n := 0) (sh_int i)] <;> rfl
    | bl b =>
      refine sr_when (ptd_val (pd_isi2 M.isinstance M.tuple M.list PyProof.Rows.boot_tuple PyProof.Rows.boot_list (pd_v 1) (by exact kb_bt) (by exact kb_bl))) (fun h => by cases h) fun _ => ?_
      refine sr_when (PW.pt (pwd_or (ptd_isN (pd_v 1)) fun _ => pwd_or1 (ptd_val (pd_isi M.isinstance M.str PyProof.Rows.boot_str (pd_v 1) (by exact kb_bs))))) (fun h => by cases h) fun _ => ?_
      apply SR.is
      · exact sr_last (sr_ret (pd_and (pd_isi M.isinstance M.int PyProof.Rows.boot_int (pd_v 0) (by exact kb_bi)) fun _ => pd_and (pd_eq hr.units (pd_isi M.isinstance M.bool PyProof.Rows.boot_bool (pd_v 0) (by exact kb_bb)) (pd_isi M.isinstance M.bool PyProof.Rows.boot_bool (pd_v 1) (by exact kb_bb)) rfl rfl) fun _ => pd_one (pd_eq hr.units (pd_v 0) (pd_v 1) rfl rfl)))
      · rw [Sh.refl (n := 0) (sh_bool b)] <;> rfl
    | non =>
      refine sr_when (ptd_val (pd_isi2 M.isinstance M.tuple M.list PyProof.Rows.boot_tuple PyProof.Rows.boot_list (pd_v 1) (by exact kb_nt) (by exact kb_nl))) (fun h => by cases h) fun _ => ?_
      refine sr_when (PW.pt (pwd_or (ptd_isN (pd_v 1)) fun _ => pwd_or1 (ptd_val (pd_isi M.isinstance M.str PyProof.Rows.boot_str (pd_v 1) (by exact kb_ns))))) (fun _ => ?_) (fun h => by cases h)
      apply SR.is
      · exact sr_last (sr_ret (pd_and (pd_eq hr.units (pd_v 0) (pd_v 1) rfl rfl) fun _ => pd_one (pd_eq hr.units (pd_isi M.isinstance M.str PyProof.Rows.boot_str (pd_v 0) (by exact kb_ns)) (pd_isi M.isinstance M.str PyProof.Rows.boot_str (pd_v 1) (by exact kb_ns)) rfl rfl)))
      · rfl
    | tup hd hz =>
      rename_i vs
      refine sr_when (ptd_val (pd_isi2 M.isinstance M.tuple M.list PyProof.Rows.boot_tuple PyProof.Rows.boot_list (pd_v 1) (by exact kb_tt) (by exact kb_tl))) (fun _ => ?_) (fun h => by cases h)
      refine sr_when (PW.pt (pwd_or (ptd_not (ptd_val (pd_isi2 M.isinstance M.tuple M.list PyProof.Rows.boot_tuple PyProof.Rows.boot_list (pd_v 0) (by exact kb_tt) (by exact kb_tl)))) fun _ => pwd_or1 (ptd_ne hr.units (pd_isi M.isinstance M.list PyProof.Rows.boot_list (pd_v 0) (by exact kb_tl)) (pd_isi M.isinstance M.list PyProof.Rows.boot_list (pd_v 1) (by exact kb_tl)) rfl rfl))) (fun h => by cases h) fun _ => ?_
      refine sr_when (k := false) (PTD.to (ptd_neN hr.units (pd_lenN M.len (pd_v 0) isTup rfl) (pd_lenN M.len (pd_v 1) isTup rfl)) (by rw [bne_self_eq_false])) (fun h => by cases h) fun _ => ?_
      have main : SR (cxOf CX0 P w K mg base n_L_alike "_law_alike" (defScope s_L_alike) f cdv A outer s H E).nox [(defBody s_L_alike |>.getD 0 (.Pass ⟨0, 0, 0, 0⟩)) |> fun | .If _ b _ _ => b.getD 2 (.Pass ⟨0, 0, 0, 0⟩) | x => x] [.dat (.tuple vs), .dat (.tuple vs), .no] (.bool (PyData.eqv (.list (((List.range vs.length).filter fun _ => false).map dN)) (.list []))) := by
        refine sr_last (sr_ret (pd_eq hr.units (pd_lcF (f := fun _ => false) 2 sc_L_alike.nd (pid_range1 M.range (pd_lenN M.len (pd_v 1) isTup rfl) (by omega)) rfl ?_ (fun k hk' hh s H C cl fp => pd_v 2) (by rw [List.length_range]; omega)) (pd_lst pds_nil) (sh_L _).shaped rfl))
        intro k hk' s H C cl fp
        have hkl := List.mem_range.mp hk'
        exact PTD.to (ptd_not (ptd_val (pd_call Hs hr (pds_cons (pd_ixTN (pd_v 0) (pd_v 2) (List.getElem?_eq_getElem hkl)) (pds_one (pd_ixTN (pd_v 1) (pd_v 2) (List.getElem?_eq_getElem hkl)))) ⟨vs[k], hd _ (List.getElem_mem hkl), rfl, rfl⟩ (Nat.le_refl _)))) rfl
      refine SR.is main ?_
      have e0 : (List.range vs.length).filter (fun _ => false) = [] := List.filter_eq_nil_iff.mpr (fun _ _ => Bool.false_ne_true)
      rw [e0] <;> rfl
end
end Wk
end

section
set_option maxHeartbeats 4000000
namespace Dc
open PySem PySem.Spec PyProof.Rows L2
/-! ### defs that raise an own class, called without arguments -/
theorem pmk_own0 {X : Cx} {C : Addr} {bmB : List Value} {B newId initId : String} {x : Str} {p pos : Pos} (F : ExcBaseFacts B newId initId bmB) (q : PySem.W.excIn X.K C bmB newId = true) (gC : X.mg x = some (.ref C))
    (kC : PySem.W.keepIn X.K (.ref C) = true) (r : Raises X (.ref C)) (hg : Gl X x) (hdb : (x == ("__debug__" : Str)) = false := by decide) :
    PMk X (.Call (.Name x p) [] [] pos) (fun _ H Q => Q (.ref C) none H) := by
  intro pins s σ H Q I h
  refine wpAny_Call_Name_kw (ld_glob I hg gC ?_ hdb)
  refine PySem.W.callWith_K0 I.kIn kC ?_
  show wpAny _ _ (call (.ref C) []) _ _ _
  obtain ⟨bm, N, nm, qn, bs, hdct, sn, sub, ab, col, dd, k0, k1, k2, k3, k5, mN, hC, hN, hni, T⟩ := exc_obj I.kIn q
  refine wpAny_call_exc_subT F T hC hN hni (fun h' e hm => ?_) (Nat.zero_le _)
  exact mk_of I hm r h (I.hok.gone hm.new)
def spX (C : Addr) (R : List PyData → PyData → Prop) (RX : List PyData → Prop) : Sp := fun vs H Q E => ∃ B ds, Same B H ∧ DdAll B vs ds ∧ ((∃ d, R ds d ∧ ∀ v B' H', Grow B H B' H' → Dd B' v d → Q v H') ∨ (RX ds ∧ ∀ B' H', Grow B H B' H' → E (.ref C) none H'))
def tX (C : Addr) (E : XK) (ρ : Env) : TS := fun D σ H => ∃ B0 H0 B, Grow B0 H0 B H ∧ Sok H0 B H σ ρ ∧ ∀ B' H', Grow B0 H0 B' H' → E (.ref C) none H'
structure HasX (P : Program) (w : World) (K : PySem.W.Frag) (mg : Str → Option Value) (base : Heap) (x : Str) (k : Nat) (ps : List Str) (sp : Sp) : Prop where
  ok : ∃ f fd, FnOk P w K mg base (L2.CX P w) k f fd ps sp ∧ mg x = some (.ref f) ∧ PySem.W.keepIn K (.ref f) = true ∧ Binds K fd ps []
section
variable {P : Program} {w : World} {K : PySem.W.Frag} {mg : Str → Option Value} {base : Heap} {x : Str} {st : Stmt} {f : Addr} {fd : FuncData} {N ps : List Str} {k : Nat} {C : Addr}
theorem def_X (F : FnP K x st f fd) (S : FnScope N ps (defScope st)) (R : List PyData → PyData → Prop) (RX : List PyData → Prop) (m : Nat) (hN : N.length = ps.length + m) (hlen : ∀ ds d, R ds d → ds.length = ps.length) (hlenX : ∀ ds, RX ds → ds.length = ps.length)
    (body : ∀ (cdv : Value) (A : Around) (outer : List PySem.Env) (s : Shared) (H : Hp) (E : XK) (ds : List PyData) (d : PyData), Room k (A.deeper (envOfC x (defScope st) s.heap.objs.size f cdv)) → R ds d →
      SR (cxOf (L2.CX P w) P w K mg base N x (defScope st) f cdv A outer s H E) (defBody st) (ds.map .dat ++ List.replicate m .no) d)
    (bodyX : ∀ (cdv : Value) (A : Around) (outer : List PySem.Env) (s : Shared) (H : Hp) (E : XK) (ds : List PyData), Room k (A.deeper (envOfC x (defScope st) s.heap.objs.size f cdv)) → RX ds →
      PSs (cxOf (L2.CX P w) P w K mg base N x (defScope st) f cdv A outer s H E) (defBody st) (tX C E (ds.map .dat ++ List.replicate m .no))) : FnOk P w K mg base (L2.CX P w) (k + 1) f fd ps (spX C R RX) := by
  refine F.ok S (fun vs H Q E ⟨B, ds, e, h, r⟩ => h.length.trans (r.elim (fun ⟨d, r, _⟩ => hlen ds d r) fun r => hlenX ds r.1)) fun cdv A outer s H vs Q E hr h => ?_
  obtain ⟨B, ds, e, h, ⟨d, r, q⟩ | ⟨r, q⟩⟩ := h
  · exact ⟨_, body cdv A outer s H E ds d hr r, B, H, B, .refl e, start_ok h (by rw [hN, hlen ds d r]), q⟩
  · exact ⟨_, bodyX cdv A outer s H E ds hr r, B, H, B, .refl e, start_ok h (by rw [hN, hlenX ds r]), q⟩
end
section
variable {X : Cx} {ρ ρ' ρ1 ρ2 : Env} {e a b c : Expr} {es : List Expr} {d d1 d2 d3 : PyData} {ds ds1 es' : List PyData} {pos p p2 : Pos} {s : Stmt} {r : List Stmt} {C : Addr} {E : XK}
theorem sx_cons (h1 : SN1 X s ρ ρ1) (h2 : PSs X r (tX C E ρ1)) : PSs X (s :: r) (tX C E ρ) := pss_mono (pss_cons h1 h2) fun D σ H ⟨B0, H0, B, g, so, k⟩ => ⟨B0, H0, B, g, so, fun σ' B' H' g' e' so' => ⟨B0, H0, B', g', so', k⟩⟩
theorem sx_when {A : List Stmt} (hc : PTD X c ρ true) (ha : PSs X A (tX C E ρ)) : PSs X (.If c A [] pos :: r) (tX C E ρ) :=
  pss_mono (pss_cons (ps_if hc ha pss_nil) (pss_if (p := False) (t := fun _ _ _ => False) (fun z => z.elim))) fun D σ H ⟨B0, H0, B, g, so, kk⟩ => ⟨H0, B, g.sub, so, fun B1 H1 g1 => by
    show (if true = true then _ else _)
    rw [if_pos rfl]
    exact ⟨B0, H0, B1, g.trans g1, so.grow g1, fun B' H' g' => kk B' H' g'⟩⟩
theorem sx_raise {bmB : List Value} {Bn newId initId : String} {x : Str} (hc : X.calm = true) (tk : Takes X (fun cls d _ H => E cls d H)) (F : ExcBaseFacts Bn newId initId bmB) (q : PySem.W.excIn X.K C bmB newId = true) (gC : X.mg x = some (.ref C))
    (kC : PySem.W.keepIn X.K (.ref C) = true) (r : Raises X (.ref C)) (hg : Gl X x := by rfl) (hdb : (x == ("__debug__" : Str)) = false := by decide) : PSs X [.Raise (some (.Call (.Name x p) [] [] p2)) none pos] (tX C E ρ) :=
  pss_mono (pss_one (ps_raise hc tk (pmk_own0 F q gC kC r hg hdb))) fun D σ H ⟨B0, H0, B, g, so, k⟩ => k B H g
/-- f(..), f may raise but does not -/
theorem pd_callX {x : Str} {k k' : Nat} {ps : List Str} {R : List PyData → PyData → Prop} {RX : List PyData → Prop} (F : HasX X.prog X.w X.K X.mg X.base x k ps (spX C R RX)) (hr : Room k' X.A) (ha : PDs X (e :: es) ρ ds) (hR : R ds d) (hk : k ≤ k' := by decide) (hg : Gl X x := by rfl) (hdb : (x == ("__debug__" : Str)) = false := by decide)
    (he : starEach (e :: es) X.env = (false, eval e X.env) :: starEach es X.env := by rfl) (hpl : (backTo pos (starEach es X.env)).any (·.1) = false := by rfl) : PD X (.Call (.Name x p) (e :: es) [] pos) ρ d := by
  obtain ⟨f, fd, h1, h2, h3, h4⟩ := F.ok
  refine pe_mono (pe_call (E := fun _ _ _ => False) h1 (hr.mono hk) hg h2 h3 h4 .nil (fun pins σ H s e s' I z => ?_) ha hdb he hpl) fun σ H Q ⟨H0, B, e, so, q⟩ => ⟨H0, B, e, so, fun vs B1 H1 g1 h1 => ?_⟩
  · obtain ⟨_, _, _, _, _, _, _, _, _, _, _, _, z⟩ := z
    exact z.elim
  · show spX C R RX (vs ++ []) H1 Q _
    rw [List.append_nil]
    exact ⟨B1, ds, g1.sub, h1, .inl ⟨d, hR, fun v B2 H2 g2 h2 => q v B2 H2 (g1.trans g2) h2⟩⟩
end
end Dc
namespace Wk
open PySem PySem.Spec PyProof.Rows L2 Dc Tx
/-- what is known of the class NotMade at C -/
structure NM (K : PySem.W.Frag) (mg : Str → Option Value) (C : Addr) : Prop where
  g : mg "NotMade" = some (.ref C)
  exc : PySem.W.excIn K C He.veBase "ValueError.__new__" = true
  kp : PySem.W.keepIn K (.ref C) = true
  sub : PySem.W.subIn K (.ref C) (.type "BaseException") = some true
  ty : PySem.W.typeIn K (.ref C) = some (.type "type")
section
variable {P : Program} {w : World} {K : PySem.W.Frag} {mg : Str → Option Value} {base : Heap} {f : Addr} {fd : FuncData} {C : Addr}
def RCut : List PyData → PyData → Prop := fun ds d => ∃ N p o, Nt.Ok N ∧ p < Nt.size N ∧ o < Nt.size N ∧ o ∈ Nt.fr N p ∧ ds = [dNet N, dN p, dN o] ∧ d = dNet (Nt.cut N p o)
def XCut : List PyData → Prop := fun ds => ∃ N p o, Nt.Ok N ∧ p < Nt.size N ∧ o < Nt.size N ∧ o ∉ Nt.fr N p ∧ ds = [dNet N, dN p, dN o]
theorem fr_gate {N : Nt.Net} {p o : Nat} (h : o ∈ Nt.fr N p) : N.1 ≤ p := by
  by_cases c : N.1 ≤ p
  · exact c
  · rw [Nt.fr_in (by omega)] at h
    cases h
theorem w_cut (M : Mg mg) (Z : NM K mg C) (H1 : HNet P w K mg base) (H2 : Has P w K mg base "need_person" 3 ["net", "person"] (spD RNeedPerson)) (H3 : Has P w K mg base "friends_in" 1 ["net", "person"] (spD RFriends)) (H4 : Has P w K mg base "cut_in" 1 ["net", "person", "other"] (spD RCutIn)) (F : FnP K "cut" s_cut f fd) : FnOk P w K mg base (L2.CX P w) 4 f fd ["net", "person", "other"] (spX C RCut XCut) :=
  def_X F sc_cut RCut XCut 0 rfl (by rintro ds d ⟨N, p, o, _, _, _, _, rfl, rfl⟩; rfl) (by rintro ds ⟨N, p, o, _, _, _, _, rfl⟩; rfl) (by
    rintro cdv A outer s H E ds d hr ⟨N, p, o, ok, hp, ho, hm, rfl, rfl⟩
    refine sr_cons (sn_expr (pd_call H1 hr (pds_one (pd_v 0)) ⟨N, ok, rfl, rfl⟩)) ?_
    refine sr_cons (sn_expr (pd_call H2 hr (pds_cons (pd_v 0) (pds_one (pd_v 1))) ⟨N, p, hp, rfl, rfl⟩)) ?_
    refine sr_cons (sn_expr (pd_call H2 hr (pds_cons (pd_v 0) (pds_one (pd_v 2))) ⟨N, o, ho, rfl, rfl⟩)) ?_
    refine sr_cons (sn_unless (PTD.to (ptd_notInN (pd_v 2) (pd_call H3 hr (pds_cons (pd_v 0) (pds_one (pd_v 1))) ⟨N, p, hp, rfl, rfl⟩) isTup) (by rw [decide_eq_true hm] <;> rfl))) ?_
    exact sr_last (sr_ret (pd_call H4 hr (pds_cons (pd_v 0) (pds_cons (pd_v 1) (pds_one (pd_v 2)))) ⟨N, p, o, fr_gate hm, hp, ok, rfl, rfl⟩))) (by
    rintro cdv A outer s H E ds hr ⟨N, p, o, ok, hp, ho, hm, rfl⟩
    refine sx_cons (sn_expr (pd_call H1 hr (pds_one (pd_v 0)) ⟨N, ok, rfl, rfl⟩)) ?_
    refine sx_cons (sn_expr (pd_call H2 hr (pds_cons (pd_v 0) (pds_one (pd_v 1))) ⟨N, p, hp, rfl, rfl⟩)) ?_
    refine sx_cons (sn_expr (pd_call H2 hr (pds_cons (pd_v 0) (pds_one (pd_v 2))) ⟨N, o, ho, rfl, rfl⟩)) ?_
    refine sx_when (PTD.to (ptd_notInN (pd_v 2) (pd_call H3 hr (pds_cons (pd_v 0) (pds_one (pd_v 1))) ⟨N, p, hp, rfl, rfl⟩) isTup) (by rw [decide_eq_false hm] <;> rfl)) ?_
    exact sx_raise rfl (takes_of rfl rfl rfl rfl) PySem.F.excBase_ValueError Z.exc Z.g Z.kp (raises_own Z.sub Z.ty))
def RTied : List PyData → PyData → Prop := fun ds d => ∃ N p o, Nt.Ok N ∧ p < Nt.size N ∧ N.1 ≤ p ∧ o < p ∧ o ∉ Nt.fr N p ∧ ds = [dNet N, dN p, dN o] ∧ d = dNet (Nt.tie N p o)
def XTied : List PyData → Prop := fun ds => ∃ N p o, Nt.Ok N ∧ p < Nt.size N ∧ o < Nt.size N ∧ (p < N.1 ∨ p ≤ o ∨ o ∈ Nt.fr N p) ∧ ds = [dNet N, dN p, dN o]
theorem tie_dat {N : Nt.Net} {p o : Nat} (h1 : N.1 ≤ p) (h2 : p < Nt.size N) : (N.2.map dT).take (p - N.1) ++ [dT (Nt.sd p (o :: Nt.fr N p))] ++ (N.2.map dT).drop (p - N.1 + 1) = (Nt.tie N p o).2.map dT := by
  unfold Nt.size at h2
  rw [set_cut (by rw [List.length_map]; omega), ← List.map_set] <;> rfl
theorem w_tied (M : Mg mg) (Z : NM K mg C) (H1 : HNet P w K mg base) (H2 : Has P w K mg base "need_person" 3 ["net", "person"] (spD RNeedPerson)) (H3 : Has P w K mg base "friends_in" 1 ["net", "person"] (spD RFriends)) (F : FnP K "tied" s_tied f fd) : FnOk P w K mg base (L2.CX P w) 4 f fd ["net", "person", "other"] (spX C RTied XTied) :=
  def_X F sc_tied RTied XTied 1 rfl (by rintro ds d ⟨N, p, o, _, _, _, _, _, rfl, rfl⟩; rfl) (by rintro ds ⟨N, p, o, _, _, _, _, rfl⟩; rfl) (by
    rintro cdv A outer s H E ds d hr ⟨N, p, o, ok, hp, hg, hop, hm, rfl, rfl⟩
    have few := ok.few
    have h9 := ok.size
    have hl := ok.frlen p
    refine sr_cons (sn_expr (pd_call H1 hr (pds_one (pd_v 0)) ⟨N, ok, rfl, rfl⟩)) ?_
    refine sr_cons (sn_expr (pd_call H2 hr (pds_cons (pd_v 0) (pds_one (pd_v 1))) ⟨N, p, hp, rfl, rfl⟩)) ?_
    refine sr_cons (sn_expr (pd_call H2 hr (pds_cons (pd_v 0) (pds_one (pd_v 2))) ⟨N, o, by omega, rfl, rfl⟩)) ?_
    refine sr_cons (sn_unless (PTD.to (PW.pt (pwd_or (ptd_ltN (pd_v 1) (pd_ixTN (pd_v 0) (pd_n 0) rfl)) fun _ => pwd_or (ptd_geN (pd_v 2) (pd_v 1)) fun _ => pwd_or1 (ptd_inN (pd_v 2) (pd_call H3 hr (pds_cons (pd_v 0) (pds_one (pd_v 1))) ⟨N, p, hp, rfl, rfl⟩) isTup))) (by rw [decide_eq_false hm, decide_eq_false (show ¬ p < N.1 by omega), decide_eq_false (show ¬ p ≤ o by omega)] <;> rfl))) ?_
    refine sr_cons (sn_set 3 sc_tied.nd (pd_subN (pd_v 1) (pd_ixTN (pd_v 0) (pd_n 0) rfl) hg)) ?_
    unfold dNet
    rw [← tie_dat hg hp]
    refine sr_last (sr_ret (pd_tup (pds_cons (pd_ixTN (pd_v 0) (pd_n 0) rfl) (pds_one (PD.to (pd_catT (pd_catT (pd_slT (pd_ixTN (pd_v 0) (pd_n 1) rfl) pod_none (pod_some (pd_v 3))) (pd_tup (pds_one (pd_tuple M.tuple (pd_sortedN (ns := Nt.fr N p ++ [o]) (Nt.sd p (o :: Nt.fr N p)) M.sorted (PD.to (pd_lst (pds_star (pd_ixTN (pd_ixTN (pd_v 0) (pd_n 1) rfl) (pd_v 3) (fr_dat hg hp)) (.inl rfl) (pds_one (pd_v 2))) ?_) ?_) ?_ (Nt.tie_perm ok hop hm) ((Nt.sd_asc _ _).imp fun h => Nat.le_of_lt h))))) ?_) (pd_slT (pd_ixTN (pd_v 0) (pd_n 1) rfl) (pod_some (pd_addN (pd_v 3) (pd_n 1))) pod_none) ?_) ?_)))))
    · rw [List.length_append, List.length_map]; show _ + 1 ≤ _; omega
    · rw [List.map_append] <;> rfl
    · rw [List.length_append]; show _ + 1 < _; omega
    · rw [cut_to, List.length_take, List.length_map]
      show _ + 1 ≤ _
      omega
    · rw [cut_to, cut_from, List.length_append, List.length_take, List.length_drop, List.length_map]
      show _ + 1 + _ ≤ _
      omega
    · rw [cut_to, cut_from] <;> rfl) (by
    rintro cdv A outer s H E ds hr ⟨N, p, o, ok, hp, ho, hm, rfl⟩
    refine sx_cons (sn_expr (pd_call H1 hr (pds_one (pd_v 0)) ⟨N, ok, rfl, rfl⟩)) ?_
    refine sx_cons (sn_expr (pd_call H2 hr (pds_cons (pd_v 0) (pds_one (pd_v 1))) ⟨N, p, hp, rfl, rfl⟩)) ?_
    refine sx_cons (sn_expr (pd_call H2 hr (pds_cons (pd_v 0) (pds_one (pd_v 2))) ⟨N, o, ho, rfl, rfl⟩)) ?_
    refine sx_when (PTD.to (PW.pt (pwd_or (ptd_ltN (pd_v 1) (pd_ixTN (pd_v 0) (pd_n 0) rfl)) fun _ => pwd_or (ptd_geN (pd_v 2) (pd_v 1)) fun _ => pwd_or1 (ptd_inN (pd_v 2) (pd_call H3 hr (pds_cons (pd_v 0) (pds_one (pd_v 1))) ⟨N, p, hp, rfl, rfl⟩) isTup))) ?_) ?_
    · rcases hm with z | z | z
      · rw [decide_eq_true z] <;> rfl
      · rw [decide_eq_true z, Bool.true_or, Bool.or_true]
      · rw [decide_eq_true z, Bool.or_true, Bool.or_true]
    · exact sx_raise rfl (takes_of rfl rfl rfl rfl) PySem.F.excBase_ValueError Z.exc Z.g Z.kp (raises_own Z.sub Z.ty))
end
end Wk
end

section
set_option maxHeartbeats 4000000
namespace Wk
open PySem PySem.Spec PyProof.Rows L2 Dc Tx
/-! ### draws -/
theorem sql_ext {K : PySem.W.Frag} {H H' : Hp} {a r : Addr} {xs : List V} (ne : a ≠ r) (e : ∀ b o, b ≠ r → H b = some o → H' b = some o) (h : SqL K H a xs) : SqL K H' a xs := by
  rcases h with (h | ⟨u, h⟩) | h
  · exact .inl (.inl (e _ _ ne h))
  · exact .inl (.inr ⟨u, e _ _ ne h⟩)
  · exact .inr h
/-- the script at a: no row of ours, or from the head -/
def ScAt (K : PySem.W.Frag) (r a : Addr) (ns : List Int) (H : Hp) : Prop := (a ≠ r ∧ SqL K H a (ns.map V.int)) ∨ ∀ H', SqL K H' a (ns.map V.int)
theorem ScAt.sq {K : PySem.W.Frag} {r a : Addr} {ns : List Int} {H : Hp} (h : ScAt K r a ns H) : SqL K H a (ns.map V.int) := h.elim (fun h => h.2) fun h => h H
theorem ScAt.ext {K : PySem.W.Frag} {r a : Addr} {ns : List Int} {H H' : Hp} (h : ScAt K r a ns H) (e : ∀ b o, b ≠ r → H b = some o → H' b = some o) : ScAt K r a ns H' := h.elim (fun h => .inl ⟨h.1, sql_ext h.1 e h.2⟩) .inr
theorem ScAt.new {K : PySem.W.Frag} {r a : Addr} {ns : List Int} {H : Hp} {o : HO} (h : SqL K H a (ns.map V.int)) (hr : H r = none) : ScAt K r a ns (upd H r o) := by
  rcases h with (h | ⟨u, h⟩) | h
  · exact .inl ⟨ne_of_none h hr, .inl (.inl (by rw [upd_ne (ne_of_none h hr)]; exact h))⟩
  · exact .inl ⟨ne_of_none h hr, .inl (.inr ⟨u, by rw [upd_ne (ne_of_none h hr)]; exact h⟩)⟩
  · exact .inr fun _ => .inr h
structure RwAt (K : PySem.W.Frag) (r a : Addr) (ns : List Int) (i s b : Int) (H : Hp) : Prop where
  lo : 0 ≤ i
  row : H r = some (.lst [.ref a, .int i, .int s, .int b])
  sc : ScAt K r a ns H
def Rw (K : PySem.W.Frag) (r a : Addr) (ns : List Int) (H : Hp) : Prop := ∃ i s b, RwAt K r a ns i s b H
theorem RwAt.put {K : PySem.W.Frag} {r a : Addr} {ns : List Int} {i s b i' s' b' : Int} {H : Hp} (h : RwAt K r a ns i s b H) (lo : 0 ≤ i') : RwAt K r a ns i' s' b' (upd H r (.lst [.ref a, .int i', .int s', .int b'])) :=
  ⟨lo, upd_same, h.sc.ext fun b o hb q => by rw [upd_ne hb]; exact q⟩
def spTk (K : PySem.W.Frag) : Sp := fun vs H Q _ => ∃ (r a : Addr) (ns : List Int) (m : Int), vs = [.ref r, .int m] ∧ 0 < m ∧ m < 1000000 ∧ Rw K r a ns H ∧ ∀ (n : Int) (H' : Hp), 0 ≤ n → n < m → (∀ b, b ≠ r → H' b = H b) → Rw K r a ns H' → Q (.int n) H'
/-- what is asked of the answer -/
def Kk (K : PySem.W.Frag) (r a : Addr) (ns : List Int) (m : Int) (D : Ends) (H : Hp) : Prop := ∀ (n : Int) (H' : Hp), 0 ≤ n → n < m → (∀ b, b ≠ r → H' b = H b) → Rw K r a ns H' → D.rt (.int n) H'
theorem Kk.put {K : PySem.W.Frag} {r a : Addr} {ns : List Int} {m : Int} {D : Ends} {H : Hp} {o : HO} (k : Kk K r a ns m D H) : Kk K r a ns m D (upd H r o) := fun n H' h1 h2 h3 h4 => k n H' h1 h2 (fun b hb => by rw [h3 b hb, upd_ne hb]) h4
section
variable {X : Cx} {e a b c : Expr} {pos p : Pos} {S S' : L2.St → Hp → Prop} {x y v : V}
abbrev PV (X : Cx) (e : Expr) (S : L2.St → Hp → Prop) (v : V) : Prop := PE X e (fun σ H Q => S σ H ∧ Q v H)
theorem pv_i {i j} : PV X (.Constant (.int i) j pos) S (.int i) := pe_mono pe_int fun σ H Q ⟨_, q⟩ => q
theorem pv_v (i : Nat) {n : Str} (h : ∀ σ H, S σ H → σ[i]? = some (some v)) (hN : X.N[i]? = some n := by rfl) (hv : Vis X.env.scope n := by first | exact Or.inl rfl | exact Or.inr (Or.inl rfl) | exact Or.inr (Or.inr rfl))
    (h1 : (n == ("__debug__" : Str)) = false := by decide) (h2 : (n == ("__classdict__" : Str)) = false := by decide) : PV X (.Name n pos) S v := pe_mono (pe_var hN hv h1 h2) fun σ H Q ⟨s, q⟩ => ⟨v, h σ H s, q⟩
theorem pv_op {op : Operator} {r : R2} (ho : OpR X (binaryOp op) r) (ha : PV X a S x) (hb : PV X b S y) (hr : ∀ σ H (Q : VK), S σ H → Q v H → r x y H Q) : PV X (.BinOp a op b pos) S v := pe_mono (pe_op ho ha hb) fun σ H Q ⟨s, q⟩ => ⟨s, s, hr σ H Q s q⟩
theorem pv_ix (ha : PV X a S x) (hb : PV X b S y) (hr : ∀ σ H, S σ H → ∃ p xs i, x = .ref p ∧ y = .int i ∧ SqL X.K H p xs ∧ atI xs i = some v) (hs : PlainIx b := by exact fun _ _ => rfl) : PV X (.Subscript a b pos) S v :=
  pe_mono (pe_ix ix_list ha hb hs) fun σ H Q ⟨s, q⟩ => ⟨s, s, by
    obtain ⟨p, xs, i, h1, h2, h3, h4⟩ := hr σ H s
    exact ⟨p, xs, i, v, h1, h2, h3, h4, q⟩⟩
theorem pv_int {i : Int} (hm : X.mg "int" = none) (ha : PV X e S (.int i)) (h1 : starEach (e :: []) X.env = (false, eval e X.env) :: starEach [] X.env := by rfl) (hg : Gl X "int" := by rfl) : PV X (.Call (.Name "int" p) [e] [] pos) S (.int i) :=
  pe_mono (pe_callTy call_int1 hg hm PyProof.Rows.boot_int (pa_cons ha pa_nil h1) (by decide) (by decide) h1) fun σ H Q ⟨s, q⟩ => ⟨s, .inl ⟨i, rfl, q⟩⟩
theorem pv_len {n : Int} (hm : X.mg "len" = none) (ha : PV X e S x) (hr : ∀ σ H, S σ H → ∃ p ys, x = .ref p ∧ SqL X.K H p ys ∧ (ys.length : Int) = n) (h1 : starEach (e :: []) X.env = (false, eval e X.env) :: starEach [] X.env := by rfl) (hg : Gl X "len" := by rfl) : PV X (.Call (.Name "len" p) [e] [] pos) S (.int n) :=
  pe_mono (pe_callB call_len_seq hg hm PySem.boot_len (pa_cons ha pa_nil h1) (by decide) (by decide) h1) fun σ H Q ⟨s, q⟩ => ⟨s, by
    obtain ⟨p, ys, e1, h2, h3⟩ := hr σ H s
    subst e1 h3
    exact ⟨p, ys, rfl, .inl h2, q⟩⟩
theorem ptv_gt {i j : Int} (ha : PV X a S (.int i)) (hb : PV X b S (.int j)) : PT X (.Compare a [.Gt] [b] pos) (fun σ H Q => S σ H ∧ Q (decide (j < i)) H) :=
  pt_mono (pt_cmpR op_gt ha hb (nomark _)) fun σ H Q ⟨s, q⟩ => ⟨s, s, i, j, rfl, rfl, _, rfl, q⟩
theorem ptv_ge {i j : Int} (ha : PV X a S (.int i)) (hb : PV X b S (.int j)) : PT X (.Compare a [.GtE] [b] pos) (fun σ H Q => S σ H ∧ Q (decide (j ≤ i)) H) :=
  pt_mono (pt_cmpR op_ge ha hb (nomark _)) fun σ H Q ⟨s, q⟩ => ⟨s, s, i, j, rfl, rfl, _, rfl, q⟩
/-- row[k] = e -/
theorem pvs_put {o i : Expr} {p2 : Pos} {r : Addr} {k : Int} {j : Nat} {xs : List V} (he : PV X e S v) (ho : PV X o S (.ref r)) (hi : PV X i S (.int k)) (hr : ∀ σ H, S σ H → H r = some (.lst xs)) (hk : ixN xs.length k = some j)
    (ha : ∀ v, assign (.Subscript o i p2) X.env v = (do
      let ov ← holding [v] (eval o X.env)
      let iv ← holding [v, ov] (eval i X.env)
      standAt p2
      holding [v, ov, iv] (setItem ov iv v)
      release [v, ov, iv] []) := by intro _; rfl)
    (hs : swapsWithSole [.Subscript o i p2] e pos.line X.env = pure false := by rfl) (hw : swappedStores [.Subscript o i p2] e X.env = pure none := by rfl) (h1 : (assignEach [.Subscript o i p2] X.env).map (·.2) = [assign (.Subscript o i p2) X.env] := by rfl) :
    PS X (.Assign [.Subscript o i p2] e pos) (fun D σ H => S σ H ∧ D.nx σ (upd H r (.lst (xs.set j v)))) :=
  ps_mono (ps_asg he (pg_sub ho hi set_list ha) hs hw h1) fun D σ H ⟨s, q⟩ => ⟨s, s, s, r, xs, k, j, rfl, rfl, hr σ H s, hk, q⟩
end
section
variable {P : Program} {w : World} {K : PySem.W.Frag} {mg : Str → Option Value} {base : Heap} {f : Addr} {fd : FuncData}
structure St (K : PySem.W.Frag) (r a : Addr) (ns : List Int) (m i s b : Int) (σ : L2.St) (H : Hp) : Prop where
  len : σ.length = 4
  s0 : σ[0]? = some (some (.ref r))
  s1 : σ[1]? = some (some (.int m))
  at_ : RwAt K r a ns i s b H
theorem St.set {r a : Addr} {ns : List Int} {m i s b : Int} {σ : L2.St} {H : Hp} (h : St K r a ns m i s b σ H) {j : Nat} {v : V} (hj : 2 ≤ j) : St K r a ns m i s b (σ.set j (some v)) H :=
  ⟨by rw [List.length_set]; exact h.len, by rw [List.getElem?_set_ne (by omega)]; exact h.s0, by rw [List.getElem?_set_ne (by omega)]; exact h.s1, h.at_⟩
theorem St.put {r a : Addr} {ns : List Int} {m i s b i' s' b' : Int} {σ : L2.St} {H : Hp} (h : St K r a ns m i s b σ H) (lo : 0 ≤ i') : St K r a ns m i' s' b' σ (upd H r (.lst [.ref a, .int i', .int s', .int b'])) :=
  ⟨h.len, h.s0, h.s1, h.at_.put lo⟩
theorem mod_lt {x m : Int} (h : 0 < m) : 0 ≤ x % m ∧ x % m < m := ⟨Int.emod_nonneg _ (by omega), Int.emod_lt_of_pos _ h⟩
theorem w_L_taken (M : Mg mg) (F : FnP K "_law_taken" s_L_taken f fd) : FnOk P w K mg base CX0 1 f fd ["_law_row", "_law_many"] (spTk K) := by
  refine F.ok sc_L_taken (fun vs H Q E ⟨r, a, ns, m, e, _⟩ => by rw [e]; rfl) fun cdv A outer s0 H0 vs Q0 E hr h => ?_
  obtain ⟨r, a, ns, m, rfl, hm, hm2, ⟨i, s, b, at0⟩, q0⟩ := h
  have N := sc_L_taken.nd
  suffices main : PSs (cxOf CX0 P w K mg base n_L_taken "_law_taken" (defScope s_L_taken) f cdv A outer s0 H0 E).nox (defBody s_L_taken) (fun D σ H => St K r a ns m i s b σ H ∧ Kk K r a ns m D H) by
    refine ⟨_, main.nox, ⟨rfl, rfl, rfl, at0⟩, q0⟩
  have v0 : ∀ {i s b : Int} (σ : L2.St) (H : Hp), St K r a ns m i s b σ H → σ[0]? = some (some (.ref r)) := fun σ H h => h.s0
  have v1 : ∀ {i s b : Int} (σ : L2.St) (H : Hp), St K r a ns m i s b σ H → σ[1]? = some (some (.int m)) := fun σ H h => h.s1
  have row : ∀ {i s b : Int} (k : Nat) (v : V), [V.ref a, .int i, .int s, .int b][k]? = some v → ∀ σ H, St K r a ns m i s b σ H → ∃ p xs j, V.ref r = .ref p ∧ V.int (k : Int) = .int j ∧ SqL K H p xs ∧ atI xs j = some v := fun k v hk σ H h => ⟨r, _, k, rfl, rfl, SqL.of h.at_.row, Dc.atI_nat hk⟩
  have fin : ∀ {i s b x : Int} (D : Ends) (H : Hp), RwAt K r a ns i s b H → Kk K r a ns m D H → D.rt (.int (x % m)) H := fun D H h k => k _ H (mod_lt hm).1 (mod_lt hm).2 (fun _ _ => rfl) ⟨_, _, _, h⟩
  -- if row[3] > 0
  refine pss_mono (pss_cons (ps_if (ptv_gt (pv_ix (pv_v 0 v0) pv_i (row 3 _ rfl)) pv_i) (pss_if (p := 0 < b) (t := fun D σ H => St K r a ns m i s b σ H ∧ Kk K r a ns m D H) fun hb => ?_) pss_nil) (pss_if (p := ¬ 0 < b) (t := fun D σ H => St K r a ns m i s b σ H ∧ Kk K r a ns m D H) fun hb => ?_)) fun D σ H ⟨h, k⟩ => ⟨h, ?_⟩
  · -- found = int(row[3]) % many; row[3] = row[3] // many; return found
    refine pss_mono (pss_cons (ps_set N (i := 2) rfl (Or.inl rfl) (pv_op (v := .int (b % m)) op_mod (pv_int M.int (pv_ix (pv_v 0 v0) pv_i (row 3 _ rfl))) (pv_v 1 v1) fun σ H Q h q => ⟨_, _, rfl, rfl, hm, q⟩) rfl (.inl rfl))
      (pss_cons (pvs_put (S := fun σ H => St K r a ns m i s b σ H ∧ σ[2]? = some (some (.int (b % m)))) (v := .int (b / m)) (xs := [.ref a, .int i, .int s, .int b]) (k := 3) (j := 3) (pv_op op_fdiv (pv_ix (pv_v 0 fun σ H h => v0 σ H h.1) pv_i fun σ H h => row 3 _ rfl σ H h.1) (pv_v 1 fun σ H h => v1 σ H h.1) fun σ H Q h q => ⟨_, _, rfl, rfl, ⟨hm, by omega⟩, q⟩) (pv_v 0 fun σ H h => v0 σ H h.1) pv_i (fun σ H h => h.1.at_.row) rfl)
      (pss_one (ps_ret (pv_v (S := fun σ H => σ[2]? = some (some (.int (b % m)))) 2 fun σ H h => h))))) fun D σ H ⟨h, k⟩ => ⟨h, ?_⟩
    have h2 : (σ.set 2 (some (V.int (b % m))))[2]? = some (some (.int (b % m))) := List.getElem?_set_self (by rw [h.len]; omega)
    exact ⟨⟨h.set (by omega), h2⟩, h2, fin D _ (h.at_.put h.at_.lo) k.put⟩
  · -- the rest
    refine pss_mono (pss_cons (pvs_put (S := St K r a ns m i s b) (v := .int (i + 1)) (xs := [.ref a, .int i, .int s, .int b]) (k := 1) (j := 1) (pv_op op_add (pv_ix (pv_v 0 v0) pv_i (row 1 _ rfl)) pv_i fun σ H Q h q => ⟨_, _, rfl, rfl, q⟩) (pv_v 0 v0) pv_i (fun σ H h => h.at_.row) rfl)
      (pss_if (p := 0 ≤ i) (t := fun D σ H => St K r a ns m (i + 1) s b σ H ∧ Kk K r a ns m D H) fun hi => ?_)) fun D σ H ⟨h, k⟩ => ⟨h, h.at_.lo, h.put (by have := h.at_.lo; omega), k.put⟩
    refine pss_mono (pss_cons (ps_if (ptv_gt (pv_ix (pv_v 0 v0) pv_i (row 1 _ rfl)) (pv_len (n := (ns.length : Int)) M.len (pv_ix (pv_v 0 v0) pv_i (row 0 _ rfl)) fun σ H h => ⟨a, _, rfl, h.at_.sc.sq, by rw [List.length_map]⟩)) (pss_if (p := (ns.length : Int) < i + 1) (t := fun D σ H => St K r a ns m (i + 1) s b σ H ∧ Kk K r a ns m D H) fun hb => ?_) pss_nil) (pss_if (p := ¬ (ns.length : Int) < i + 1) (t := fun D σ H => St K r a ns m (i + 1) s b σ H ∧ Kk K r a ns m D H) fun hb => ?_)) fun D σ H ⟨h, k⟩ => ⟨h, ?_⟩
    · refine pss_mono (pss_cons (pvs_put (S := St K r a ns m (i + 1) s b) (v := .int ((s * 48271 + 11) % 2147483647)) (xs := [.ref a, .int (i + 1), .int s, .int b]) (k := 2) (j := 2) (pv_op op_mod (pv_int M.int (pv_op (v := .int (s * 48271 + 11)) op_add (pv_op (v := .int (s * 48271)) op_mul (pv_ix (pv_v 0 v0) pv_i (row 2 _ rfl)) pv_i fun σ H Q h q => ⟨_, _, rfl, rfl, .inr ⟨by decide, by decide⟩, q⟩) pv_i fun σ H Q h q => ⟨_, _, rfl, rfl, q⟩)) pv_i fun σ H Q h q => ⟨_, _, rfl, rfl, (show (0 : Int) < 2147483647 by omega), q⟩) (pv_v 0 v0) pv_i (fun σ H h => h.at_.row) rfl)
        (pss_one (ps_ret (pv_op (S := St K r a ns m (i + 1) ((s * 48271 + 11) % 2147483647) b) (v := .int (((s * 48271 + 11) % 2147483647 / 7) % m)) op_mod (pv_int M.int (pv_op (v := .int ((s * 48271 + 11) % 2147483647 / 7)) op_fdiv (pv_ix (pv_v 0 v0) pv_i (row 2 _ rfl)) pv_i fun σ H Q h q => ⟨_, _, rfl, rfl, ⟨by decide, by decide⟩, q⟩)) (pv_v 1 v1) fun σ H Q h q => ⟨_, _, rfl, rfl, hm, q⟩)))) fun D σ H ⟨h, k⟩ => ⟨h, h.put h.at_.lo, fin D _ (h.at_.put h.at_.lo) k.put⟩
    · have hlt : i.toNat < ns.length := by omega
      refine pss_mono (pss_cons (ps_set N (i := 3) rfl (Or.inl rfl) (pv_ix (S := St K r a ns m (i + 1) s b) (v := .int ns[i.toNat]) (pv_ix (pv_v 0 v0) pv_i (row 0 _ rfl)) (pv_op (v := .int (i + 1 - 1)) op_sub (pv_ix (pv_v 0 v0) pv_i (row 1 _ rfl)) pv_i fun σ H Q h q => ⟨_, _, rfl, rfl, q⟩) fun σ H h => ⟨a, _, _, rfl, rfl, h.at_.sc.sq, ?_⟩) rfl (.inl rfl))
        (pss_if (p := True) (t := fun D σ H => (St K r a ns m (i + 1) s b σ H ∧ σ[3]? = some (some (.int ns[i.toNat]))) ∧ Kk K r a ns m D H) fun _ => ?_)) fun D σ H ⟨h, k⟩ => ⟨h, trivial, ⟨h.set (j := 3) (by omega), List.getElem?_set_self (i := 3) (by rw [h.len]; omega)⟩, k⟩
      · have e : i + 1 - 1 = ((i.toNat : Nat) : Int) := by omega
        rw [e]
        exact Dc.atI_nat (by rw [List.getElem?_map, List.getElem?_eq_getElem hlt] <;> rfl)
      · generalize ns[i.toNat] = c
        refine pss_mono (pss_cons (pvs_put (S := fun σ H => St K r a ns m (i + 1) s b σ H ∧ σ[3]? = some (some (.int c))) (v := .int ((s * 48271 + c + 11) % 2147483647)) (xs := [.ref a, .int (i + 1), .int s, .int b]) (k := 2) (j := 2) (pv_op op_mod (pv_int M.int (pv_op (v := .int (s * 48271 + c + 11)) op_add (pv_op (v := .int (s * 48271 + c)) op_add (pv_op (v := .int (s * 48271)) op_mul (pv_ix (pv_v 0 fun σ H h => v0 σ H h.1) pv_i fun σ H h => row 2 _ rfl σ H h.1) pv_i fun σ H Q h q => ⟨_, _, rfl, rfl, .inr ⟨by decide, by decide⟩, q⟩) (pv_v 3 fun σ H h => h.2) fun σ H Q h q => ⟨_, _, rfl, rfl, q⟩) pv_i fun σ H Q h q => ⟨_, _, rfl, rfl, q⟩)) pv_i fun σ H Q h q => ⟨_, _, rfl, rfl, (show (0 : Int) < 2147483647 by omega), q⟩) (pv_v 0 fun σ H h => v0 σ H h.1) pv_i (fun σ H h => h.1.at_.row) rfl)
          (pss_if (p := True) (t := fun D σ H => (St K r a ns m (i + 1) ((s * 48271 + c + 11) % 2147483647) b σ H ∧ σ[3]? = some (some (.int c))) ∧ Kk K r a ns m D H) fun _ => ?_)) fun D σ H ⟨⟨h, h3⟩, k⟩ => ⟨⟨h, h3⟩, trivial, ⟨h.put h.at_.lo, h3⟩, k.put⟩
        generalize (s * 48271 + c + 11) % 2147483647 = s'
        refine pss_mono (pss_cons (ps_if (ptv_ge (S := fun σ H => St K r a ns m (i + 1) s' b σ H ∧ σ[3]? = some (some (.int c))) (pv_v 3 fun σ H h => h.2) (pv_op (v := .int (10 ^ 18)) op_pow pv_i pv_i fun σ H Q h q => ⟨_, _, rfl, rfl, ⟨by decide, by decide, by decide⟩, q⟩)) (pss_one (pvs_put (S := fun σ H => St K r a ns m (i + 1) s' b σ H ∧ σ[3]? = some (some (.int c))) (v := .int (c / m)) (xs := [.ref a, .int (i + 1), .int s', .int b]) (k := 3) (j := 3) (pv_op op_fdiv (pv_v 3 fun σ H h => h.2) (pv_v 1 fun σ H h => v1 σ H h.1) fun σ H Q h q => ⟨_, _, rfl, rfl, ⟨hm, by omega⟩, q⟩) (pv_v 0 fun σ H h => v0 σ H h.1) pv_i (fun σ H h => h.1.at_.row) rfl)) pss_nil)
          (pss_one (ps_ret (pv_op (S := fun σ H => ∃ b, St K r a ns m (i + 1) s' b σ H ∧ σ[3]? = some (some (.int c))) (v := .int (c % m)) op_mod (pv_int M.int (pv_v 3 fun σ H ⟨_, h⟩ => h.2)) (pv_v 1 fun σ H ⟨_, h⟩ => v1 σ H h.1) fun σ H Q h q => ⟨_, _, rfl, rfl, hm, q⟩)))) fun D σ H ⟨⟨h, h3⟩, k⟩ => ⟨⟨h, h3⟩, ?_⟩
        show (if _ then _ else _)
        split
        · exact ⟨⟨h, h3⟩, ⟨_, h.put h.at_.lo, h3⟩, fin D _ (h.at_.put h.at_.lo) k.put⟩
        · exact ⟨⟨_, h, h3⟩, fin D _ h.at_ k⟩
    · show (if _ then _ else _)
      split
      · rename_i hc
        exact ⟨of_decide_eq_true hc, h, k⟩
      · rename_i hc
        exact ⟨fun z => hc (decide_eq_true z), h, k⟩
  · show (if _ then _ else _)
    split
    · rename_i hc
      exact ⟨of_decide_eq_true hc, h, k⟩
    · rename_i hc
      exact ⟨fun z => hc (decide_eq_true z), h, k⟩
end
end Wk
end

section
set_option maxHeartbeats 4000000
namespace Wk
open PySem PySem.Spec PyProof.Rows L2 Dc Tx
/-! ### what draws change -/
structure DG (K : PySem.W.Frag) (r a : Addr) (ns : List Int) (B H B' H' : Hp) : Prop where
  bb : Same B B'
  sub : Same B' H'
  ext : ∀ b o, b ≠ r → H b = some o → H' b = some o
  sep : ∀ c, H c ≠ none → B c = none → B' c = none
  row : Rw K r a ns H'
section
variable {K : PySem.W.Frag} {r a : Addr} {ns : List Int} {B H B' H' B2 H2 HH : Hp}
theorem Rw.ne {K : PySem.W.Frag} {r a : Addr} {ns : List Int} {H : Hp} (w : Rw K r a ns H) : H r ≠ none := by
  obtain ⟨i, s, b, h⟩ := w
  rw [h.row]
  exact fun z => nomatch z
theorem Rw.ext (w : Rw K r a ns H) (e : Same H H') : Rw K r a ns H' := by
  obtain ⟨i, s, b, h⟩ := w
  exact ⟨i, s, b, h.lo, e _ _ h.row, h.sc.ext fun b o _ q => e b o q⟩
theorem DG.of (g : Grow B H B' H') (w : Rw K r a ns H) : DG K r a ns B H B' H' := ⟨g.bb, g.sub, fun b o _ q => g.ext b o q, g.sep, w.ext g.ext⟩
theorem DG.refl (e : Same B H) (w : Rw K r a ns H) : DG K r a ns B H B H := .of (.refl e) w
theorem DG.ne (x : DG K r a ns B H B' H') {c : Addr} (h : H c ≠ none) : H' c ≠ none := by
  by_cases e : c = r
  · rw [e]; exact x.row.ne
  · cases q : H c with
    | none => exact absurd q h
    | some o =>
      rw [x.ext c o e q]
      exact fun z => nomatch z
theorem DG.trans (x : DG K r a ns B H B' H') (y : DG K r a ns B' H' B2 H2) : DG K r a ns B H B2 H2 :=
  ⟨x.bb.trans y.bb, y.sub, fun b o hb q => y.ext b o hb (x.ext b o hb q), fun c h1 h2 => y.sep c (x.ne h1) (x.sep c h1 h2), y.row⟩
theorem DG.off (x : DG K r a ns B H B' H') (w : Rw K r a ns H) (h : B r = none) : B' r = none := x.sep r w.ne h
theorem DG.step (x : DG K r a ns B H B' H') (g : Grow B' H' B2 H2) : DG K r a ns B H B2 H2 := x.trans (.of g x.row)
/-- a draw -/
theorem DG.draw (e : Same B H) (h : B r = none) (k : ∀ b, b ≠ r → H' b = H b) (w : Rw K r a ns H') : DG K r a ns B H B H' :=
  ⟨.refl B, fun b u q => by
    have ne : b ≠ r := fun z => by
      rw [z, h] at q
      cases q
    rw [k b ne]
    exact e b u q, fun b o hb q => by rw [k b hb]; exact q, fun _ _ h => h, w⟩
theorem DG.mut {D : Addr} {o : HO} (g : DG K r a ns B H B' H') (w : Rw K r a ns H) (h1 : H D = none) (hB : B' D = none) : DG K r a ns B H B' (upd H' D o) := by
  have hr : r ≠ D := fun z => w.ne (by rw [z]; exact h1)
  refine ⟨g.bb, fun b u e => by rw [upd_ne (ne_of_none e hB)]; exact g.sub b u e, fun b u hb e => by rw [upd_ne (ne_of_none e h1)]; exact g.ext b u hb e, g.sep, ?_⟩
  obtain ⟨i, s, b, q⟩ := g.row
  obtain ⟨i0, s0, b0, q0⟩ := w
  refine ⟨i, s, b, q.lo, by rw [upd_ne hr]; exact q.row, ?_⟩
  exact q0.sc.ext fun b u hb e => by rw [upd_ne (ne_of_none e h1)]; exact g.ext b u hb e
theorem DG.adopt {D : Addr} {o : HO} (g : DG K r a ns B H B' H') (h1 : H D = none) (hB : B' D = none) (hH : H' D = some o) : DG K r a ns B H (upd B' D o) H' := by
  refine ⟨fun b u e => ?_, fun b u e => ?_, g.ext, fun c h2 h3 => ?_, g.row⟩
  · have e' := g.bb b u e
    rw [upd_ne (ne_of_none e' hB)]
    exact e'
  · by_cases c : b = D
    · subst c
      rw [upd_same] at e
      rw [hH]
      exact e
    · rw [upd_ne c] at e
      exact g.sub b u e
  · have ne : c ≠ D := fun z => by
      rw [z] at h2
      exact h2 h1
    rw [upd_ne ne]
    exact g.sep c h2 h3
theorem _root_.Dc.Sok.dg {σ : L2.St} {ρ : Dc.Env} (x : Sok HH B H σ ρ) (no : ∀ s ∈ ρ, s.own = false) (g : DG K r a ns B H B' H') : Sok HH B' H' σ ρ := by
  refine ⟨x.len, fun i s hs => ?_, fun i j s t l _ hs _ os _ _ => ?_⟩
  · have n := no s (List.mem_of_getElem? hs)
    have q := x.slot i s hs
    cases s with
    | no => trivial
    | dat d => obtain ⟨v, h1, h2⟩ := q; exact ⟨v, h1, h2.mono g.bb⟩
    | fdat d => obtain ⟨v, h1, h2, h3⟩ := q; exact ⟨v, h1, h2.mono g.bb, h3.mono g.bb⟩
    | raw v => exact q
    | lst ds => cases n
    | dic ks => cases n
  · have n := no s (List.mem_of_getElem? hs)
    rw [os] at n
    cases n
end
theorem start_raw {B H : Hp} {N : List Str} {v : V} {vs : List V} {ds : List PyData} {m : Nat} (h : DdAll B vs ds) (hN : N.length = ds.length + 1 + m) : Sok H B H (L2.start N (v :: vs)) (.raw v :: ds.map .dat ++ List.replicate m .no) := by
  have hl := h.length
  have no_own : ∀ (i : Nat) (s : Sl), (.raw v :: ds.map Sl.dat ++ List.replicate m .no)[i]? = some s → s.own = false := fun i s hs => by
    rcases List.mem_append.mp (List.mem_of_getElem? hs) with z | z
    · rcases List.mem_cons.mp z with z | z
      · rw [z] <;> rfl
      · obtain ⟨d, _, rfl⟩ := List.mem_map.mp z
        rfl
    · rw [(List.mem_replicate.mp z).2] <;> rfl
  refine ⟨?_, fun i s hs => ?_, fun i j s t l _ hs _ os _ _ => ?_⟩
  · unfold L2.start
    simp only [List.length_append, List.length_cons, List.length_map, List.length_replicate]
    omega
  · cases i with
    | zero =>
      have es : Sl.raw v = s := Option.some.inj hs
      subst es
      rfl
    | succ i =>
      by_cases c : i < ds.length
      · have hs' : (ds.map Sl.dat ++ List.replicate m Sl.no)[i]? = some s := hs
        rw [List.getElem?_append_left (by rw [List.length_map]; exact c), List.getElem?_map, List.getElem?_eq_getElem c] at hs'
        have es : Sl.dat ds[i] = s := Option.some.inj hs'
        subst es
        obtain ⟨u, hu, hd⟩ := h.get (List.getElem?_eq_getElem c)
        refine ⟨u, ?_, hd⟩
        show (vs.map some ++ List.replicate (N.length - (v :: vs).length) none)[i]? = _
        rw [List.getElem?_append_left (by rw [List.length_map]; omega), List.getElem?_map, hu] <;> rfl
      · have hs' : (ds.map Sl.dat ++ List.replicate m Sl.no)[i]? = some s := hs
        rw [List.getElem?_append_right (by rw [List.length_map]; omega)] at hs'
        rw [(List.mem_replicate.mp (List.mem_of_getElem? hs')).2]
        trivial
  · rw [no_own i s hs] at os
    cases os
section
variable {X : Cx} {ρ ρ1 : Dc.Env} {e b : Expr} {pos p : Pos} {K : PySem.W.Frag} {r a : Addr} {ns : List Int}
def tDraw (K : PySem.W.Frag) (r a : Addr) (ns : List Int) (ρ : Dc.Env) (m : Int) : TE := fun σ H Q => ∃ HH B, Same B H ∧ B r = none ∧ Rw K r a ns H ∧ Sok HH B H σ ρ ∧ ∀ (n : Nat) B' H', (n : Int) < m → DG K r a ns B H B' H' → Q (.int n) H'
/-- _law_taken(row, e) -/
theorem pe_draw {m : Int} {k' : Nat} {px : Pos} (F : Has X.prog X.w X.K X.mg X.base "_law_taken" 1 ["_law_row", "_law_many"] (spTk X.K)) (hr : Room k' X.A) (ha : PD X e ρ (.int m)) (hm : 0 < m) (hm2 : m < 1000000) (hk : 1 ≤ k' := by decide) (hρ : ρ[0]? = some (.raw (.ref r)) := by rfl) (hN : X.N[0]? = some ("_law_row" : Str) := by rfl)
    (hv : Vis X.env.scope ("_law_row" : Str) := by first | exact Or.inl rfl | exact Or.inr (Or.inl rfl) | exact Or.inr (Or.inr rfl)) (hg : Gl X "_law_taken" := by rfl)
    (he1 : starEach (Expr.Name "_law_row" px :: [e]) X.env = (false, eval (.Name "_law_row" px) X.env) :: starEach [e] X.env := by rfl) (he2 : starEach (e :: []) X.env = (false, eval e X.env) :: starEach [] X.env := by rfl) (hpl : (backTo pos (starEach [e] X.env)).any (·.1) = false := by rfl) :
    PE X (.Call (.Name "_law_taken" p) [.Name "_law_row" px, e] [] pos) (tDraw X.K r a ns ρ m) := by
  obtain ⟨f, fd, h1, h2, h3, h4⟩ := F.ok
  refine pe_mono (pe_call (E := fun _ _ _ => False) h1 (hr.mono hk) hg h2 h3 h4 .nil pass0 (pa_cons (pe_var hN hv) (pds_one ha he2) he1) (by decide) he1 hpl) fun σ H Q ⟨HH, B, eq, hB, w, so, q⟩ => ⟨.ref r, so.slot 0 _ hρ, HH, B, eq, so, fun vs B1 H1 g1 h => ?_⟩
  obtain ⟨v, rfl, h'⟩ := h.one
  rw [h'.int_inv]
  refine ⟨r, a, ns, m, rfl, hm, hm2, w.ext g1.ext, fun n H' n0 n1 k w' => ?_⟩
  have en : n = ((n.toNat : Nat) : Int) := by omega
  rw [en]
  exact q n.toNat B1 H' (by omega) ((DG.of g1 w).trans (.draw g1.sub (g1.sep r w.ne hB) k w'))
/-! ### a comprehension with a draw in its test -/
def tDrawT (K : PySem.W.Frag) (r a : Addr) (ns : List Int) (ρ : Dc.Env) : TT := fun σ H Q => ∃ HH B, Same B H ∧ B r = none ∧ Rw K r a ns H ∧ Sok HH B H σ ρ ∧ ∀ k B' H', DG K r a ns B H B' H' → Q k H'
def tDrawL (K : PySem.W.Frag) (r a : Addr) (ns : List Int) (ρ : Dc.Env) (n : Nat) : TE := fun σ H Q => ∃ HH B, Same B H ∧ B r = none ∧ Rw K r a ns H ∧ Sok HH B H σ ρ ∧ ∀ (l : List Nat) v B' H', l.Sublist (List.range n) → DG K r a ns B H B' H' → Dd B' v (.list (l.map dN)) → Q v H'
theorem tlcD {n j : Nat} {ds : List PyData} (hds : ds = (List.range n).map dN) (hj : j < ρ.length) (no : ∀ s ∈ ρ, s.own = false) (hz : n < 100000) : ∀ σ H Q, tDrawL K r a ns ρ n σ H Q →
    tLc (tDI ρ ds) (gName j) (fun σ H Q => ∃ i : Nat, tDrawT K r a ns (ρ.set j (.dat (dN i))) σ H Q) (fun σ H Q => ∃ i : Nat, tD (ρ.set j (.dat (dN i))) (dN i) σ H Q) [j] σ H Q := fun σ H Q ⟨HH, B, e, hB, w, so, q⟩ => by
  refine ⟨HH, B, e, so, fun J B1 H1 g1 hJ D hD => ?_⟩
  subst hds
  have w1 := w.ext g1.ext
  have hB1 : B1 D = none := g1.sub.free hD
  have hr1 : B1 r = none := g1.sep r w.ne hB
  refine ⟨fun i m H' => ∃ B' l, i + m = n ∧ DG K r a ns B1 H1 B' H' ∧ B' D = none ∧ H' D = some (.lst (l.map fun k : Nat => V.int k)) ∧ l.Sublist (List.range i), ⟨n, B1, [], by omega, (DG.refl g1.sub w1).mut w1 hD hB1, hB1, upd_same, List.Sublist.refl _⟩, fun i m H' ⟨B', l, em, g2, hBD, hacc, hl⟩ => ?_⟩
  have hll : l.length ≤ i := by
    have := hl.length_le
    rw [List.length_range] at this
    exact this
  by_cases hi : i < n
  · refine .inr ⟨hJ.1 i H' (g2.bb.trans g2.sub) (by rw [List.length_map, List.length_range]; exact hi), fun H'' => ∃ B' l, (i + 1) + (m - 1) = n ∧ DG K r a ns B1 H1 B' H'' ∧ B' D = none ∧ H'' D = some (.lst (l.map fun k : Nat => V.int k)) ∧ l.Sublist (List.range (i + 1)), fun H'' ⟨B', l, h⟩ => ⟨m - 1, by omega, B', l, h⟩, fun x H2 hy => ?_⟩
    obtain ⟨B2, g3, hx⟩ := hJ.2.2 i B' H' x H2 (dN i) g2.bb g2.sub hy (by rw [List.getElem?_map, List.getElem?_range hi] <;> rfl)
    have g23 := g2.step g3
    have e2 : (wipe σ [j]).set j (some x) = σ.set j (some x) := by rw [wipe_one, List.set_set]
    show wipe ((wipe σ [j]).set j (some x)) [j] = wipe σ [j] ∧ _
    rw [e2]
    have so1 : Sok HH B1 H1 σ ρ := so.grow g1
    have so2 : Sok HH B2 H2 σ ρ := so1.dg no g23
    have hr2 : B2 r = none := g23.off w1 hr1
    refine ⟨by rw [wipe_one, wipe_one, List.set_set], i, HH, B2, g3.sub, hr2, g23.row, so2.setDat hx hj, fun k B3 H3 g4 => ?_⟩
    have hBD2 : B2 D = none := g3.sep D (by rw [hacc]; exact fun z => nomatch z) hBD
    have hacc2 : H2 D = some (.lst (l.map fun k : Nat => V.int k)) := g3.ext _ _ hacc
    have hDr : D ≠ r := fun z => w1.ne (by rw [← z]; exact hD)
    have hacc3 := g4.ext _ _ hDr hacc2
    have hBD3 : B3 D = none := g4.sep D (by rw [hacc2]; exact fun z => nomatch z) hBD2
    cases k with
    | true =>
      show (if true = true then _ else _)
      rw [if_pos rfl]
      have so3 : Sok HH B3 H3 (σ.set j (some x)) (ρ.set j (.dat (dN i))) := by
        refine (so2.setDat hx hj).dg (fun s hs => ?_) g4
        rcases List.mem_or_eq_of_mem_set hs with z | z
        · exact no s z
        · rw [z] <;> rfl
      refine ⟨i, HH, B3, g4.sub, so3, fun y B4 H4 g5 hy => ⟨_, g5.ext _ _ hacc3, ?_, ?_⟩⟩
      · rw [List.length_map]
        exact szl (by omega)
      · have hB4 : B4 D = none := g5.sep D (by rw [hacc3]; exact fun z => nomatch z) hBD3
        refine ⟨B4, l ++ [i], by omega, ((g23.trans g4).step g5).mut w1 hD hB4, hB4, ?_, ?_⟩
        · rw [upd_same, hy.int_inv, List.map_append] <;> rfl
        · rw [List.range_succ]
          exact hl.append (List.Sublist.refl _)
    | false =>
      show (if false = true then _ else _)
      rw [if_neg Bool.false_ne_true]
      refine ⟨B3, l, by omega, g23.trans g4, hBD3, hacc3, ?_⟩
      rw [List.range_succ]
      exact hl.trans (List.sublist_append_left _ _)
  · have ei : i = n := by omega
    refine .inl ⟨?_, ?_⟩
    · have := hJ.2.1 H' (g2.bb.trans g2.sub)
      rw [List.length_map, List.length_range] at this
      rw [ei]
      exact this
    · rw [ei] at hl
      refine q l _ _ _ hl ((DG.of g1 w).trans (g2.adopt hD hBD hacc)) (.lst upd_same ?_)
      have e9 : (l.map fun k : Nat => V.int k) = (l.map Int.ofNat).map V.int := by rw [List.map_map]; rfl
      rw [e9, mapN]
      exact .ofInts _
/-- [x for x in range(..) if <a draw>] -/
theorem pe_drawL {n j : Nat} {ds : List PyData} {x : Str} {px pe : Pos} {iter c : Expr} {scope : Scope} {ρ : Dc.Env} (hN : X.N.Nodup) (hi : PID X (.Name x px) iter ρ ds) (hds : ds = (List.range n).map dN) (no : ∀ s ∈ ρ, s.own = false) (hz : n < 100000)
    (ht : ∀ i : Nat, ∀ (s : Shared) (H : Hp) (C : Addr) (cl : List (Str × Addr)) (fp : List Addr), PT (X.blk s H scope (compEnvC scope cl C X.env) fp) c (tDrawT K r a ns (ρ.set j (.dat (dN i)))))
    (he : ∀ i : Nat, ∀ (s : Shared) (H : Hp) (C : Addr) (cl : List (Str × Addr)) (fp : List Addr), PD (X.blk s H scope (compEnvC scope cl C X.env) fp) (.Name x pe) (ρ.set j (.dat (dN i))) (dN i))
    (hc : X.calm = true := by rfl) (ok : BlkOk X.N X.env.scope scope [(x, j)] := by exact blkOk_by (by kernel_rfl)) (hij : X.N[j]? = some x := by rfl) (hl : ∀ (s : Shared) (H : Hp) (C : Addr) (cl : List (Str × Addr)) (fp : List Addr), Loc (X.blk s H scope (compEnvC scope cl C X.env) fp).env.scope x := by intro _ _ _ _ _; first | exact Or.inl rfl | exact Or.inr rfl)
    (hf : ∀ (s : Shared) (H : Hp) (C : Addr) (cl : List (Str × Addr)) (fp : List Addr), (X.blk s H scope (compEnvC scope cl C X.env) fp).fn x = true ∨ (X.blk s H scope (compEnvC scope cl C X.env) fp).env.scope.names.lookup x = some .local := by intro _ _ _ _ _; first | exact .inl rfl | exact .inr rfl)
    (hj : j < ρ.length := by exact Nat.le_of_ble_eq_true rfl) (hs : ∀ x, foldedSetIterable iter X.env x = pure x := by intro _; rfl) : PE X (.ListComp (.Name x pe) [⟨.Name x px, iter, [c], 0⟩] scope pos) (tDrawL K r a ns ρ n) :=
  pe_mono (pe_lc (own := [(x, j)]) hc hN hi ok (fun s H C cl fp => pg_name hN hij (hl s H C cl fp) (hf s H C cl fp)) (fun s H C cl fp => pts_ex fun i => pts_one (ht i s H C cl fp)) (fun s H C cl fp => pe_ex fun i => he i s H C cl fp) hs) (tlcD hds hj no hz)
end
end Wk
end

section
set_option maxHeartbeats 4000000
namespace Wk
open PySem PySem.Spec PyProof.Rows L2 Dc Tx
section
variable {X : Cx} {ρ ρ1 : Dc.Env} {c b : Expr} {pos p : Pos} {K : PySem.W.Frag} {r a : Addr} {ns : List Int}
theorem draw_lt {m k : Int} {j} {p2 : Pos} (h : PE X c (tDraw K r a ns ρ m)) : PT X (.Compare c [.Lt] [.Constant (.int k) j p2] pos) (tDrawT K r a ns ρ) :=
  pt_mono (pt_cmpR op_lt h pe_int (nomark _)) fun σ H Q ⟨HH, B, eq, hB, w, so, q⟩ => ⟨HH, B, eq, hB, w, so, fun n B' H' _ g => ⟨_, _, rfl, rfl, _, rfl, q _ B' H' g⟩⟩
theorem draw_eq {m k : Int} {j} {p2 : Pos} (hu : X.A.units + 64 < cLine) (h : PE X c (tDraw K r a ns ρ m)) : PT X (.Compare c [.Eq] [.Constant (.int k) j p2] pos) (tDrawT K r a ns ρ) :=
  pt_mono (pt_cmpR (op_eqD hu) h pe_int (nomark _)) fun σ H Q ⟨HH, B, eq, hB, w, so, q⟩ => ⟨HH, B, eq, hB, w, so, fun n B' H' _ g => ⟨.int _, .int _, .int _, .int _, rfl, rfl, _, rfl, q _ B' H' g⟩⟩
end
def noOwn (ρ : Dc.Env) : Bool := ρ.all fun s => !s.own
theorem no_own {ρ : Dc.Env} (h : noOwn ρ = true) : ∀ s ∈ ρ, s.own = false := fun s hs => by
  have := List.all_eq_true.mp h s hs
  cases q : s.own with
  | false => rfl
  | true =>
    rw [q] at this
    cases this
theorem _root_.Dc.Sok.re {HH HH' B H : Hp} {σ : L2.St} {ρ : Dc.Env} (x : Sok HH B H σ ρ) (no : ∀ s ∈ ρ, s.own = false) : Sok HH' B H σ ρ := by
  refine ⟨x.len, fun i s hs => ?_, fun i j s t l _ hs _ os _ _ => ?_⟩
  · have n := no s (List.mem_of_getElem? hs)
    have q := x.slot i s hs
    cases s with
    | lst ds => cases n
    | dic ks => cases n
    | _ => exact q
  · have n := no s (List.mem_of_getElem? hs)
    rw [os] at n
    cases n
section
variable {P : Program} {w : World} {K : PySem.W.Frag} {mg : Str → Option Value} {base : Heap} {f : Addr} {fd : FuncData}
def spNet (K : PySem.W.Frag) : Sp := fun vs H Q _ => ∃ (r a : Addr) (ns : List Int) (B : Hp), vs = [.ref r, .int 6] ∧ Same B H ∧ B r = none ∧ Rw K r a ns H ∧ ∀ N v B' H', Nt.Ok N → DG K r a ns B H B' H' → Dd B' v (dNet N) → Q v H'
def GsOk (n : Nat) (gs : List (List Nat)) : Prop := ∀ k (h : k < gs.length), (gs[k]).Pairwise (· < ·) ∧ ∀ o ∈ gs[k], o < n + k
def envN (r : Addr) (n : Nat) (gs : List (List Nat)) : Dc.Env := [.raw (.ref r), .dat (.int 6), .dat (dN n), .dat (.tuple (gs.map dT)), .no, .no, .no]
theorem gs_add {n : Nat} {gs : List (List Nat)} {l : List Nat} (h : GsOk n gs) (hl : l.Sublist (List.range (n + gs.length))) : GsOk n (gs ++ [l]) := by
  intro k hk
  by_cases c : k < gs.length
  · rw [List.getElem_append_left c]
    exact h k c
  · rw [List.length_append] at hk
    have hk : k < gs.length + 1 := hk
    have e : k = gs.length := by omega
    subst e
    rw [List.getElem_append_right (Nat.le_refl _)]
    simp only [Nat.sub_self, List.getElem_cons_zero]
    exact ⟨(Nt.asc_range _).sublist hl, fun o ho => List.mem_range.mp (hl.subset ho)⟩
def stAt (b : List Stmt) (k : Nat) : Stmt := b.getD k (.Pass ⟨0, 0, 0, 0⟩)
def forAt (s : Stmt) (k : Nat) : Stmt := match s with
  | .For _ _ b _ _ => stAt b k
  | x => x
def argOf (s : Stmt) : Expr := match s with
  | .Assign _ (.Call _ l _ _) _ => l.getD 0 (.Tuple [] 0 ⟨0, 0, 0, 0⟩)
  | _ => .Tuple [] 0 ⟨0, 0, 0, 0⟩
theorem w_L_net (M : Mg mg) (H1 : Has P w K mg base "_law_taken" 1 ["_law_row", "_law_many"] (spTk K)) (F : FnP K "_law_net" s_L_net f fd) : FnOk P w K mg base CX0 2 f fd ["_law_row", "_law_most"] (spNet K) := by
  refine F.ok sc_L_net (fun vs H Q E ⟨r, a, ns, B, e, _⟩ => by rw [e]; rfl) fun cdv A outer s0 H0 vs Q0 E hr h => ?_
  obtain ⟨r, a, ns, B0, rfl, eq0, hB0, w0, q0⟩ := h
  have N := sc_L_net.nd
  have st := start_raw (B := B0) (H := H0) (N := n_L_net) (v := .ref r) (vs := [.int 6]) (ds := [.int 6]) (m := 5) (.cons (.int 6) .nil) rfl
  -- return (size, gates)
  have ret : ∀ n gs, SR1 (cxOf CX0 P w K mg base n_L_net "_law_net" (defScope s_L_net) f cdv A outer s0 H0 E).nox (stAt (defBody s_L_net) 2) (envN r n gs) (.tuple [dN n, .tuple (gs.map dT)]) := fun n gs => sr_ret (pd_tup (pds_cons (pd_v 2) (pds_one (pd_v 3))))
  -- gates = gates + (near,)
  have add : ∀ (q : {q : Nat × List (List Nat) × Nat × List Nat // q.2.1.length ≤ 6}), SN1 (cxOf CX0 P w K mg base n_L_net "_law_net" (defScope s_L_net) f cdv A outer s0 H0 E).nox (forAt (stAt (defBody s_L_net) 1) 1) (((envN r q.1.1 q.1.2.1).set 4 (.dat (dN q.1.2.2.1))).set 5 (.dat (dT q.1.2.2.2))) ((((envN r q.1.1 q.1.2.1).set 4 (.dat (dN q.1.2.2.1))).set 5 (.dat (dT q.1.2.2.2))).set 3 (.dat (.tuple (q.1.2.1.map dT ++ [dT q.1.2.2.2])))) := fun q =>
    sn_set 3 N (pd_catT (pd_v 3) (pd_tup (pds_one (pd_v 5))) (by rw [List.length_map]; have := q.2; show _ + 1 ≤ _; omega))
  -- near = tuple([..])
  have near : ∀ (q : Nat × List (List Nat) × Nat), q.1 ≤ 3 → q.2.2 ≤ 6 → PE (cxOf CX0 P w K mg base n_L_net "_law_net" (defScope s_L_net) f cdv A outer s0 H0 E).nox (argOf (forAt (stAt (defBody s_L_net) 1) 0)) (tDrawL K r a ns ((envN r q.1 q.2.1).set 4 (.dat (dN q.2.2))) (q.1 + q.2.2)) := fun q h1 h2 =>
    pe_drawL (j := 6) N (pid_range1 M.range (pd_addN (pd_v 2) (pd_v 4)) (by omega)) rfl (no_own rfl) (by omega) (fun i s H C cl fp => draw_lt (pe_draw H1 hr pd_int (by decide) (by decide))) (fun i s H C cl fp => pd_v 6)
  refine ⟨_, PSs.nox (pss_cons (ps_par (i := 2) (j := 3) rfl N rfl rfl (by decide) rfl rfl (pa_cons (pe_op op_add pe_int (pe_draw (r := r) (a := a) (ns := ns) (ρ := [.raw (.ref r), .dat (.int 6), .no, .no, .no, .no, .no]) H1 hr pd_int (by decide) (by decide))) (pds_one (ρ := [.raw (.ref r), .dat (.int 6), .no, .no, .no, .no, .no]) (pd_tup pds_nil))) rfl rfl)
    (pss_cons (ps_for PassesOwn.never rfl (pi_range1 rfl M.range (pa_cons (pe_ex fun n : Nat => pe_draw (r := r) (a := a) (ns := ns) (ρ := envN r n []) H1 hr (pd_add (pd_v 1) pd_int) (by decide) (by decide)) pa_nil)) (pg_name (i := 4) N rfl (Or.inl rfl) (.inl rfl))
      (pss_cons (ps_set N (i := 5) rfl (Or.inl rfl) (pe_callTy call_tuple_of rfl M.tuple PyProof.Rows.boot_tuple (pa_cons (pe_ex fun q : {q : Nat × List (List Nat) × Nat // q.1 ≤ 3 ∧ q.2.2 ≤ 6} => near q.1 q.2.1 q.2.2) pa_nil)) rfl (.inl rfl)) (pss_one (ps_mono (t := fun D σ H => ∃ q, tN _ _ D σ H) ⟨fun pins s σ H D I ⟨q, h⟩ => (add q).run pins s σ H D I h⟩ fun _ _ _ z => z))))
    (pss_one (ps_mono (t := fun D σ H => ∃ q : Nat × List (List Nat), tR (envN r q.1 q.2) (.tuple [dN q.1, .tuple (q.2.map dT)]) D σ H) ⟨fun pins s σ H D I ⟨q, h⟩ => (ret q.1 q.2).run pins s σ H D I h⟩ fun _ _ _ z => z)))), ?_⟩
  refine ⟨H0, B0, eq0, hB0, w0, st, fun n1 B1 H1 hn1 g1 => ⟨1, n1, rfl, rfl, H0, B1, g1.sub, st.dg (no_own rfl) g1, fun vs B2 H2 g2 h2 => ?_⟩⟩
  obtain ⟨v, rfl, hv⟩ := h2.one
  have g12 := g1.step g2
  refine ⟨_, _, rfl, ?_⟩
  have so2 : Sok H0 B2 H2 _ (envN r (1 + n1) []) := (((st.dg (no_own rfl) g12).setDat (j := 2) (v := .int (1 + (n1 : Int))) (d := dN (1 + n1)) (by
    have e : (1 + (n1 : Int)) = ((1 + n1 : Nat) : Int) := by omega
    rw [e]
    exact .int _) (Nat.le_of_ble_eq_true rfl)).setDat (j := 3) hv (Nat.le_of_ble_eq_true rfl))
  refine ⟨1 + n1, H0, B2, g12.sub, g12.off w0 hB0, g12.row, so2, fun cnt B3 H3 hcnt g3 => ⟨(cnt : Int), rfl, by omega, by omega, ?_⟩⟩
  rw [Int.toNat_natCast]
  have hJ : ItD B3 (Itr 0 cnt) ((List.range cnt).map dN) := itd_ints (fun i H hi => hi) (fun H => Nat.le_refl cnt) fun i H x H' hi ⟨z1, z2⟩ => ⟨z1, by rw [z2, Int.zero_add]⟩
  have g13 := g12.trans g3
  have hr3 : B3 r = none := g13.off w0 hB0
  refine ⟨fun i m σ' H' => ∃ B' gs, i + m = cnt ∧ DG K r a ns B3 H3 B' H' ∧ Sok H0 B' H' σ' (envN r (1 + n1) gs) ∧ gs.length = i ∧ GsOk (1 + n1) gs, ⟨cnt, B3, [], by omega, .refl g3.sub g3.row, so2.dg (no_own rfl) g3, rfl, fun k hk => absurd hk (Nat.not_lt_zero _)⟩, fun i m σ' H' ⟨B', gs, em, g4, so4, hgl, hgs⟩ => ?_⟩
  have hr4 : B' r = none := g4.off g3.row hr3
  by_cases hi : i < cnt
  · refine .inr ⟨hi, fun σ'' H'' => ∃ B' gs, (i + 1) + (m - 1) = cnt ∧ DG K r a ns B3 H3 B' H'' ∧ Sok H0 B' H'' σ'' (envN r (1 + n1) gs) ∧ gs.length = i + 1 ∧ GsOk (1 + n1) gs, fun σ'' H'' ⟨B', gs, h⟩ => ⟨m - 1, by omega, B', gs, h⟩, fun x H5 hy => ?_⟩
    obtain ⟨B5, g5, hx⟩ := hJ.2.2 i B' H' x H5 (dN i) g4.bb g4.sub hy (by rw [List.getElem?_map, List.getElem?_range hi] <;> rfl)
    have so5 : Sok H0 B5 H5 (σ'.set 4 (some x)) ((envN r (1 + n1) gs).set 4 (.dat (dN i))) := (so4.grow g5).setDat hx (Nat.le_of_ble_eq_true rfl)
    have g45 := g4.step g5
    refine ⟨⟨(1 + n1, gs, i), by show 1 + n1 ≤ 3; omega, by show i ≤ 6; omega⟩, H0, B5, g5.sub, g5.sep r g4.row.ne hr4, g45.row, so5, fun l v6 B6 H6 hl g6 h6 => ?_⟩
    obtain ⟨p6, xs6, rfl, hp6, hx6⟩ := h6.lst_inv
    refine ⟨p6, xs6, rfl, .inl ⟨SqL.of (g6.sub _ _ hp6), fun p7 hp7 => ?_⟩⟩
    have g7 : Grow B6 H6 (upd B6 p7 (.tup xs6)) (upd H6 p7 (.tup xs6)) := .new g6.sub hp7
    have h7 : Dd (upd B6 p7 (.tup xs6)) (.ref p7) (dT l) := .tup (.inl upd_same) (hx6.mono g7.bb)
    have so7 := ((so5.dg (no_own rfl) g6).grow g7).setDat (j := 5) h7 (Nat.le_of_ble_eq_true rfl)
    have g47 := (g45.trans g6).step g7
    have hq : gs.length ≤ 6 := by omega
    refine ⟨⟨(1 + n1, gs, i, l), hq⟩, _, _, _, .refl g7.sub, so7.re (no_own rfl), fun σ8 B8 H8 g8 _ so8 => ⟨B8, gs ++ [l], by omega, g47.step g8, ?_, by rw [List.length_append, hgl] <;> rfl, gs_add hgs (by rw [hgl]; exact hl)⟩⟩
    have e9 : envN r (1 + n1) (gs ++ [l]) = (((((envN r (1 + n1) gs).set 4 (.dat (dN i))).set 5 (.dat (dT l))).set 3 (.dat (.tuple (gs.map dT ++ [dT l])))).set 4 .no).set 5 .no := by
      unfold envN
      rw [List.map_append] <;> rfl
    rw [e9]
    exact ((so8.forget 4).forget 5).re (no_own rfl)
  · have ei : i = cnt := by omega
    refine .inl ⟨by show cnt ≤ i; omega, (1 + n1, gs), _, _, B', .refl g4.sub, so4.re (no_own rfl), fun v B' H' g5 hv => ?_⟩
    refine q0 (1 + n1, gs) v B' H' (Nt.Ok.of (by show 1 ≤ 1 + n1; omega) (by show 1 + n1 ≤ 3; omega) (by show gs.length ≤ 6; omega) (fun k h => (hgs k h).1) (fun k h => (hgs k h).2)) ((g13.trans g4).step g5) hv
end
end Wk
end

section
set_option maxHeartbeats 4000000
namespace Wk
open PySem PySem.Spec PyProof.Rows L2 Dc Tx
section
variable {P : Program} {w : World} {K : PySem.W.Frag} {mg : Str → Option Value} {base : Heap} {f : Addr} {fd : FuncData}
def spAns (K : PySem.W.Frag) : Sp := fun vs H Q _ => ∃ (r a : Addr) (ns : List Int) (B : Hp) (N : Nt.Net) (v : V), vs = [.ref r, v] ∧ Same B H ∧ B r = none ∧ Rw K r a ns H ∧ Dd B v (dNet N) ∧ Nt.Ok N ∧ ∀ as v B' H', Nt.Ans N as → DG K r a ns B H B' H' → Dd B' v (dT as) → Q v H'
theorem eqv_LL (a b : List Nat) : PyData.eqv (.list (a.map dN)) (.list (b.map dN)) = (a == b) := by
  rw [eqv_L]
  by_cases h : a = b
  · rw [decide_eq_true h, beq_iff_eq.mpr h]
  · rw [decide_eq_false h, beq_eq_false_iff_ne.mpr h]
theorem w_L_answers (M : Mg mg) (H1 : Has P w K mg base "_law_taken" 1 ["_law_row", "_law_many"] (spTk K)) (F : FnP K "_law_answers" s_L_answers f fd) : FnOk P w K mg base CX0 2 f fd ["_law_row", "_law_net_here"] (spAns K) := by
  refine F.ok sc_L_answers (fun vs H Q E ⟨r, a, ns, B, N, v, e, _⟩ => by rw [e]; rfl) fun cdv A outer s0 H0 vs Q0 E hr h => ?_
  obtain ⟨r, a, ns, B0, T, v, rfl, eq0, hB0, w0, hv, ok, q0⟩ := h
  have N := sc_L_answers.nd
  have h9 := ok.size
  have st := start_raw (B := B0) (H := H0) (N := n_L_answers) (v := .ref r) (vs := [v]) (ds := [dNet T]) (m := 3) (.cons hv .nil) rfl
  have szE : SN1 (cxOf CX0 P w K mg base n_L_answers "_law_answers" (defScope s_L_answers) f cdv A outer s0 H0 E).nox (stAt (defBody s_L_answers) 0) [.raw (.ref r), .dat (dNet T), .no, .no, .no] [.raw (.ref r), .dat (dNet T), .dat (dN (Nt.size T)), .no, .no] :=
    sn_set 2 N (pd_addN (pd_ixTN (pd_v 1) (pd_n 0) rfl) (pd_lenN M.len (pd_ixTN (pd_v 1) (pd_n 1) rfl) isTup (List.length_map ..)))
  have ret : ∀ l : List Nat, SR1 (cxOf CX0 P w K mg base n_L_answers "_law_answers" (defScope s_L_answers) f cdv A outer s0 H0 E).nox (stAt (defBody s_L_answers) 2) [.raw (.ref r), .dat (dNet T), .dat (dN (Nt.size T)), .dat (.list (l.map dN)), .no] (dT (if l = [] then [Nt.size T - 1] else l)) := fun l => by
    refine sr_ret (pd_tuple M.tuple (pd_if (k := !(l == [])) (PTD.to (ptd_ne hr.units (pd_v 3) (pd_lst pds_nil) (sh_L _).shaped rfl) (by rw [show PyData.list [] = .list (([] : List Nat).map dN) from rfl, eqv_LL])) (fun h => ?_) (fun h => ?_)))
    · have hne : l ≠ [] := fun z => by
        rw [z] at h
        cases h
      rw [if_neg hne]
      exact pd_v 3
    · have hne : l = [] := by
        cases l with
        | nil => rfl
        | cons x r => cases h
      rw [if_pos hne]
      exact pd_lst (pds_one (pd_subN (pd_v 2) (pd_n 1) (by have := ok.lo; unfold Nt.size; omega)))
  have comp : PS (cxOf CX0 P w K mg base n_L_answers "_law_answers" (defScope s_L_answers) f cdv A outer s0 H0 E).nox (stAt (defBody s_L_answers) 1) (fun D σ H => tDrawL K r a ns [.raw (.ref r), .dat (dNet T), .dat (dN (Nt.size T)), .no, .no] (Nt.size T) σ H (fun x H2 => D.nx (σ.set 3 (some x)) H2)) :=
    ps_mono (ps_setLc (i := 3) (own := [("_law_who", 4)]) rfl N rfl rfl (sw_true rfl rfl rfl (by decide +kernel)) (pid_range1 (n := Nt.size T) (ρ := [.raw (.ref r), .dat (dNet T), .dat (dN (Nt.size T)), .no, .no]) M.range (pd_v 2) (by omega)) (blkOk_by (by kernel_rfl)) (fun s H C cl fp => pg_name (i := 4) N rfl (Or.inl rfl) (.inr rfl))
      (fun s H C cl fp => pts_ex fun i : Nat => pts_one (draw_eq (K := K) (r := r) (a := a) (ns := ns) (ρ := [.raw (.ref r), .dat (dNet T), .dat (dN (Nt.size T)), .no, .dat (dN i)]) hr.units (pe_draw H1 hr pd_int (by decide) (by decide)))) (fun s H C cl fp => pe_ex fun i : Nat => pd_v (ρ := [.raw (.ref r), .dat (dNet T), .dat (dN (Nt.size T)), .no, .dat (dN i)]) (d := dN i) 4)) fun D σ H h => tlcD rfl (Nat.le_of_ble_eq_true rfl) (no_own rfl) (by omega) σ H _ h
  refine ⟨_, PSs.nox (pss_cons szE (pss_cons comp
    (pss_one (ps_mono (t := fun D σ H => ∃ l : List Nat, tR _ _ D σ H) ⟨fun pins s σ H D I ⟨l, h⟩ => (ret l).run pins s σ H D I h⟩ fun _ _ _ z => z)))), ?_⟩
  refine ⟨B0, H0, B0, .refl eq0, st, fun σ1 B1 H1' g1 _ so1 => ?_⟩
  have w1 := w0.ext g1.ext
  have hB1 : B1 r = none := g1.sep r w0.ne hB0
  refine ⟨H0, B1, g1.sub, hB1, w1, so1, fun l v2 B2 H2 hl g2 hv2 => ?_⟩
  have so2 := (so1.dg (no_own rfl) g2).setDat (j := 3) hv2 (Nat.le_of_ble_eq_true rfl)
  refine ⟨l, _, _, B2, .refl g2.sub, so2.re (no_own rfl), fun v3 B3 H3 g3 hv3 => q0 _ v3 B3 H3 ?_ (((DG.of g1 w0).trans g2).step g3) hv3⟩
  by_cases c : l = []
  · rw [if_pos c]
    refine ⟨by simp, by simp, fun x hx => ?_⟩
    rw [List.mem_singleton.mp hx]
    have := ok.lo
    unfold Nt.size
    omega
  · rw [if_neg c]
    exact ⟨c, (Nt.asc_range _).sublist hl, fun x hx => List.mem_range.mp (hl.subset hx)⟩
end
end Wk
end

section
set_option maxHeartbeats 4000000
namespace Dc
open PySem PySem.Spec PyProof.Rows L2
/-! ### across the making of a lambda -/
def clean (B : Hp) : Hp := fun a => match B a with
  | some (.tbl _) => none
  | o => o
theorem clean_of {B : Hp} {a : Addr} {o : HO} (h : B a = some o) (hn : ∀ ps, o ≠ .tbl ps) : clean B a = some o := by
  unfold clean
  rw [h]
  cases o with
  | tbl ps => exact absurd rfl (hn ps)
  | _ => rfl
theorem clean_some {B : Hp} {a : Addr} {o : HO} (h : clean B a = some o) : B a = some o ∧ ∀ ps, o ≠ .tbl ps := by
  unfold clean at h
  cases q : B a with
  | none =>
    rw [q] at h
    cases h
  | some u =>
    rw [q] at h
    cases u with
    | tbl ps => cases h
    | _ =>
      have e := Option.some.inj h
      subst e
      exact ⟨rfl, fun ps z => nomatch z⟩
theorem clean_none {B : Hp} {a : Addr} (h : B a = none) : clean B a = none := by
  unfold clean
  rw [h]
theorem rd_clean {B : Hp} {a : Addr} {xs : List V} : Rd B a (.tup xs) → Rd (clean B) a (.tup xs)
  | .inl h => .inl (clean_of h fun ps z => nomatch z)
  | .inr ⟨o, h⟩ => .inr ⟨o, clean_of h fun ps z => nomatch z⟩
mutual
theorem Dd.clean {B : Hp} : ∀ {v : V} {d : PyData}, Dd B v d → Dd (Dc.clean B) v d
  | _, _, .non => .non
  | _, _, .bl b => .bl b
  | _, _, .int i => .int i
  | _, _, .str x => .str x
  | _, _, .lst h k => .lst (clean_of h fun ps z => nomatch z) (DdAll.clean k)
  | _, _, .tup h k => .tup (rd_clean h) (DdAll.clean k)
theorem DdAll.clean {B : Hp} : ∀ {vs : List V} {ds : List PyData}, DdAll B vs ds → DdAll (Dc.clean B) vs ds
  | _, _, .nil => .nil
  | _, _, .cons h k => .cons (Dd.clean h) (DdAll.clean k)
end
theorem Sok.extN {HH B H H1 : Hp} {σ : L2.St} {ρ : Env} (x : Sok HH B H σ ρ) (e : LamX.ExtN H H1) : Sok HH (Dc.clean B) H1 σ ρ := by
  refine ⟨x.len, fun i s hs => ?_, x.apart⟩
  have q := x.slot i s hs
  cases s with
  | no => trivial
  | raw v => exact q
  | dat d => obtain ⟨v, h1, h2⟩ := q; exact ⟨v, h1, h2.clean⟩
  | fdat d =>
    obtain ⟨v, h1, h2, a, o, xs, h3, h4, h5⟩ := q
    exact ⟨v, h1, h2.clean, a, o, xs, h3, clean_of h4 (fun ps z => nomatch z), h5⟩
  | lst ds =>
    obtain ⟨l, xs, h1, h2, h3, h4, h5⟩ := q
    exact ⟨l, xs, h1, e _ _ h2 (fun ps z => nomatch z), h3, clean_none h4, h5.clean⟩
  | dic ks =>
    obtain ⟨l, h1, h2, h3, h4⟩ := q
    exact ⟨l, h1, e _ _ h2 (fun ps z => nomatch z), h3, clean_none h4⟩
theorem clean_same {B H H1 : Hp} (e : Same B H) (x : LamX.ExtN H H1) : Same (Dc.clean B) H1 := fun b u q => by
  obtain ⟨h1, h2⟩ := clean_some q
  exact x b u (e b u h1) h2
end Dc
namespace Wk
open PySem PySem.Spec PyProof.Rows L2 Dc Tx
/-! ### told -/
structure ToldK (K : PySem.W.Frag) (mg : Str → Option Value) (C G T : Addr) : Prop where
  gG : mg "GateError" = some (.ref G)
  gT : mg "TooMany" = some (.ref T)
  gC : mg "NotMade" = some (.ref C)
  isi : mg "isinstance" = none
  exm : PySem.W.exmOne K (.ref C) (.ref G) = some true
  ec : ExcC K C
  k1 : PySem.W.kitOne K (.ref C) (.ref T) = some false
  k2 : PySem.W.kitOne K (.ref C) (.ref C) = some true
def TT2 (C : Addr) : (XK → Hp → VK → Prop) → Hp → VK → Prop := fun tl H Q => tl (fun cls d H' => cls = .ref C ∧ d = none ∧ Q .non H') H Q
theorem pt_isE {X : Cx} {a D c : Addr} {oe : Obj} {pn : List (Addr × Obj)} {x : Str} {b : Bool} {p p1 p2 pos : Pos} (h : ExcC X.K D) (hz : Zc (.ref D) none oe) (hf : ∃ vs, oe.data = .fields vs) (hm : X.mg "isinstance" = none) (hx : X.mg x = some (.ref c)) (hk : PySem.W.kitOne X.K (.ref D) (.ref c) = some b)
    (hN : X.N[1]? = some ("e" : Str)) (hv : Vis X.env.scope ("e" : Str)) (hg : Gl X "isinstance") (hgx : Gl X x) (hdb : (x == ("__debug__" : Str)) = false)
    (hs1 : starEach (Expr.Name "e" p1 :: [.Name x p2]) X.env = (false, eval (.Name "e" p1) X.env) :: starEach [.Name x p2] X.env) (hs2 : starEach [Expr.Name x p2] X.env = (false, eval (.Name x p2) X.env) :: starEach [] X.env) (hpl : (backTo pos (starEach [Expr.Name x p2] X.env)).any (·.1) = false) :
    PT (X.suite a ((a, oe) :: pn)) (.Call (.Name "isinstance" p) [.Name "e" p1, .Name x p2] [] pos) (fun σ H Q => σ[1]? = some (some (.ref a)) ∧ Q b H) :=
  pt_mono (pt_val (pe_callB (X := X.suite a ((a, oe) :: pn)) (call_isE h hz hf) hg hm PyProof.Rows.boot_isinstance (pa_cons (pe_var (X := X.suite a ((a, oe) :: pn)) (i := 1) hN hv) (pa_cons (pe_glob (X := X.suite a ((a, oe) :: pn)) (v := .ref c) hgx hx rfl hdb) pa_nil hs2) hs1) (by decide) (by decide) hs1 hpl)) fun σ H Q ⟨h1, q⟩ => ⟨_, h1, .ref c, .ref c, b, rfl, fun u r => r, hk, b, rfl, q⟩
theorem told_gives2 {X : Cx} {C G T g : Addr} {cdg : Value} {q : Str} (Z : ToldK X.K X.mg C G T) : LamX.GivesTo X n_L_told "_law_told" (defScope s_L_told) g cdg (defBody s_L_told) "_law_work" q (TT2 C) := by
  intro f c' s H Q tl act hc h
  refine ⟨_, pss_one (ps_try_as (X := (cxOf C8.CX0 X.prog X.w X.K X.mg X.base n_L_told "_law_told" (defScope s_L_told) g cdg X.A X.stack s H C8.E0).nox) (c := .ref G) (i := 1)
      (tb := fun W D σ H => ∃ Ech : XK, (∀ cls d σ' H', Ech cls d H' → σ'.length = 2 → W cls d σ' H') ∧ σ[0]? = some (some (.ref f)) ∧ H c' = some (LamX.CodeO c' q) ∧ tl Ech H D.rt)
      (ts := fun a cls d D σ H => (cls = .ref C ∧ d = none) ∧ σ[1]? = some (some (.ref a)) ∧ D.rt .non H) (Wout := fun _ _ _ _ => False)
      rfl rfl sc_L_told.nd rfl rfl ⟨rfl, by decide, .inl Z.gG⟩ LamX.takes0 (fun W pn xe tk _ => ?_) (fun a oe cls d pn hz hf => ?_)), ?_⟩
  · refine ⟨fun pins s' σ H' D I h' => ?_⟩
    obtain ⟨Ech, hW, h1, h2, h3⟩ := h'
    have hp := fun p1 p2 => act (fun cls d σ' H' => σ'.length = 2 → W cls d σ' H') pn xe Ech p1 p2 (fun u s' ⟨a, B, sI, pins, σ, H, cls, d, e, I, nb, up, sky, na, os, ag, w⟩ => tk u s' ⟨a, B, sI, pins, σ, H, cls, d, e, I, nb, up, sky, na, os, ag, w I.len⟩) hW
    exact (pss_one (ps_ret (hp _ _))).run pins s' σ H' D I ⟨h1, h2, h3⟩
  · refine pss_mono (pss_if (p := cls = .ref C ∧ d = none) (t := fun D σ H => σ[1]? = some (some (.ref a)) ∧ D.rt .non H) fun hp => ?_) fun D σ H z => z
    obtain ⟨rfl, rfl⟩ := hp
    exact pss_one (ps_mono (ps_ret (pe_ifExp (pt_isE Z.ec hz hf Z.isi Z.gT Z.k1 rfl (Or.inl rfl) rfl rfl (by decide) rfl rfl rfl) pe_str (pe_ifExp (pt_isE Z.ec hz hf Z.isi Z.gC Z.k2 rfl (Or.inl rfl) rfl rfl (by decide) rfl rfl rfl) pe_non pe_str))) fun D σ H ⟨h1, q⟩ => ⟨h1, h1, q⟩)
  · exact ⟨fun cls d H' => cls = .ref C ∧ d = none ∧ Q .non H', fun cls d σ' H' ⟨z1, z2, z3⟩ hl => ⟨true, by rw [z1]; exact Z.exm, fun _ a _ => ⟨⟨z1, z2⟩, List.getElem?_set_self (by omega), z3⟩, fun hb => nomatch hb⟩, rfl, hc, h⟩
/-! ### told(lambda: f(..)) -/
def tTo (T : List (Addr × Str)) (ρ : Dc.Env) (d : PyData) : TE := fun σ H Q => ∃ HH B, Same B H ∧ Sok HH B H σ ρ ∧ LamX.Tabs T H ∧ ∀ v B' H', Same B' H' → Sok HH B' H' σ ρ → LamX.Tabs T H' → Dd B' v d → Q v H'
theorem pe_told {X : Cx} {ρ : Dc.Env} {C G T g c Pt : Addr} {fd : FuncData} {x : Str} {ps : List Str} {R : List PyData → PyData → Prop} {RX : List PyData → Prop} {ds : List PyData} {d : PyData} {k : Nat} {params : Arguments} {scope : Scope} {e : Expr} {es : List Expr} {p p1 p2 lpos pos : Pos}
    (Z : ToldK X.K X.mg C G T) (F : FnP X.K "_law_told" s_L_told g fd) (gm : X.mg "_law_told" = some (.ref g)) (bd : Binds X.K fd ["_law_work"] []) (FX : HasX X.prog X.w X.K X.mg X.base x k ps (spX C R RX)) (TB : LamX.TabB X.base X.mg c Pt) (hcode : X.env.code = .ref c) (hr : Room (k + 2) X.A)
    (hargs : ∀ (A : Around) (outer : List PySem.Env) (s : Shared) (H : Hp) (E : XK) (f c' : Addr), PDs (LamX.lamCx X A outer s H E scope f c') (e :: es) ρ ds) (hres : R ds d ∨ (RX ds ∧ d = .none))
    (L : LamX.LamS X.env.scope scope := by exact LamX.lamS_by (by kernel_rfl)) (hdef : defaultsOf params X.env = ([], []) := by rfl)
    (hbind : ∀ (q : Str) (cl : List (Str × Addr)) (pm cv ctv : Value), bindArgs (PySem.W.kla_fn "<lambda>" q params (.Call (.Name x p1) (e :: es) [] p2) scope cl pm cv ctv) ⟨[], []⟩ = pure [] := by intro _ _ _ _ _; rfl)
    (hg : Gl X "_law_told" := by rfl) (hg2 : ∀ (A : Around) (outer : List PySem.Env) (s : Shared) (H : Hp) (E : XK) (f c' : Addr), Gl (LamX.lamCx X A outer s H E scope f c') x := by intro _ _ _ _ _ _ _; rfl) (hdb : (x == ("__debug__" : Str)) = false := by decide)
    (he : ∀ (A : Around) (outer : List PySem.Env) (s : Shared) (H : Hp) (E : XK) (f c' : Addr), starEach (e :: es) (LamX.lamCx X A outer s H E scope f c').env = (false, eval e (LamX.lamCx X A outer s H E scope f c').env) :: starEach es (LamX.lamCx X A outer s H E scope f c').env := by intro _ _ _ _ _ _ _; rfl)
    (hpl : ∀ (A : Around) (outer : List PySem.Env) (s : Shared) (H : Hp) (E : XK) (f c' : Addr), (backTo p2 (starEach es (LamX.lamCx X A outer s H E scope f c').env)).any (·.1) = false := by intro _ _ _ _ _ _ _; rfl) :
    PE X (.Call (.Name "_law_told" p) [.Lambda params (.Call (.Name x p1) (e :: es) [] p2) scope lpos] [] pos) (tTo [(Pt, X.env.qual ++ "<lambda>")] ρ d) := by
  obtain ⟨oc, od, dV, kV, doc, pm, an, cdv, ct, osl, rfl, lk, hcd, _, _⟩ := F.ex
  refine pe_mono (LamX.pe_lamcall (T := [(Pt, X.env.qual ++ "<lambda>")]) (TT := TT2 C) (t := fun E σ H Q => ∃ HH B, Same B H ∧ Sok HH B H σ ρ ∧ ∀ vs B1 H1, Grow B H B1 H1 → DdAll B1 vs ds → spX C R RX vs H1 Q E) hg gm F.kp lk hcd bd sc_L_told rfl (Or.inl rfl) (told_gives2 Z) TB hcode (List.mem_singleton.mpr rfl) (fun p hp _ => by rw [List.mem_singleton.mp hp]) hr L hdef hbind fun A outer s H E f c' hr' => ?_) fun σ H Q ⟨HH, B, eq, so, tb, q⟩ => ?_
  · obtain ⟨fx, fdx, h1, h2, h3, h4⟩ := FX.ok
    exact pe_mono (pe_call (X := LamX.lamCx X A outer s H E scope f c') (E := E) h1 hr' (hg2 A outer s H E f c') h2 h3 h4 .nil (passes_call (takes_of rfl rfl rfl rfl) fun _ _ _ _ h => h) (hargs A outer s H E f c') hdb (he A outer s H E f c') (hpl A outer s H E f c')) fun σ H Q ⟨HH, B, e, so, q⟩ => ⟨HH, B, e, so, fun vs B1 H1 g1 h1 => by
      show spX C R RX (vs ++ []) H1 Q _
      rw [List.append_nil]
      exact q vs B1 H1 g1 h1⟩
  · refine ⟨tb, fun H1 e1 t1 => ?_⟩
    refine ⟨HH, Dc.clean B, clean_same eq e1, so.extN e1, fun vs B2 H2 g2 h2 => ⟨B2, ds, g2.sub, h2, ?_⟩⟩
    have so2 := (so.extN e1).grow g2
    rcases hres with r | ⟨r, rfl⟩
    · exact .inl ⟨d, r, fun v B3 H3 g3 hv => q v B3 H3 g3.sub (so2.grow g3) ((t1.ext g2.ext).ext g3.ext) hv⟩
    · exact .inr ⟨r, fun B3 H3 g3 => ⟨rfl, rfl, q .non B3 H3 g3.sub (so2.grow g3) ((t1.ext g2.ext).ext g3.ext) .non⟩⟩
end Wk
end

section
set_option maxHeartbeats 4000000
namespace Wk
open PySem PySem.Spec PyProof.Rows L2 Dc Tx
abbrev qq : Str := (envOfC "_law_rest" (defScope s_L_rest) 0 0 .none).qual ++ "<lambda>"
def tZ (T : List (Addr × Str)) (ρ : Dc.Env) : TS := fun D σ H => ∃ HH B, Same B H ∧ Sok HH B H σ ρ ∧ LamX.Tabs T H ∧ ∀ H', D.rt (.bl true) H'
def tZT (T : List (Addr × Str)) (ρ : Dc.Env) (k : Bool) : TT := fun σ H Q => ∃ HH B, Same B H ∧ Sok HH B H σ ρ ∧ LamX.Tabs T H ∧ ∀ B' H', Same B' H' → Sok HH B' H' σ ρ → LamX.Tabs T H' → Q k H'
section
variable {X : Cx} {ρ ρ1 : Dc.Env} {s : Stmt} {r : List Stmt} {c e : Expr} {pos : Pos} {T : List (Addr × Str)} {d : PyData}
theorem tabs_dg {K : PySem.W.Frag} {r a : Addr} {ns : List Int} {B H B' H' : Hp} {T : List (Addr × Str)} (w : Rw K r a ns H) (g : DG K r a ns B H B' H') (t : LamX.Tabs T H) : LamX.Tabs T H' := fun p hp => by
  obtain ⟨i, s, b, q⟩ := w
  obtain ⟨ps, h1, h2, h3⟩ := t p hp
  refine ⟨ps, g.ext _ _ (fun z => ?_) h1, h2, fun pos cv hc => ?_⟩
  · rw [z, q.row] at h1
    cases h1
  · obtain ⟨c, e, hcc⟩ := h3 pos cv hc
    refine ⟨c, e, g.ext _ _ (fun z => ?_) hcc⟩
    rw [z, q.row] at hcc
    cases hcc
theorem _root_.Dc.SR1.is' {d' : PyData} (h : SR1 X s ρ d) (q : d = d') : SR1 X s ρ d' := q ▸ h
theorem z_cons (h1 : SN1 X s ρ ρ1) (h2 : PSs X r (tZ T ρ1)) (no : noOwn ρ = true := by rfl) (no1 : noOwn ρ1 = true := by rfl) : PSs X (s :: r) (tZ T ρ) :=
  pss_mono (pss_cons h1 h2) fun D σ H ⟨HH, B, eq, so, tb, q⟩ => ⟨B, H, B, .refl eq, so.re (no_own no), fun σ' B' H' g _ so' => ⟨HH, B', g.sub, so'.re (no_own no1), tb.ext g.ext, q⟩⟩
theorem z_ret (h : SR1 X s ρ (.bool true)) (no : noOwn ρ = true := by rfl) : PSs X [s] (tZ T ρ) :=
  pss_mono (pss_one h) fun D σ H ⟨HH, B, eq, so, tb, q⟩ => ⟨B, H, B, .refl eq, so.re (no_own no), fun v B' H' g hv => by
    rw [hv.bl_inv]
    exact q H'⟩
theorem z_unless {A : List Stmt} (hc : PT X c (tZT T ρ false)) (h2 : PSs X r (tZ T ρ)) : PSs X (.If c A [] pos :: r) (tZ T ρ) :=
  pss_mono (pss_cons (ps_if hc (pss_if (p := False) (t := fun _ _ _ => False) fun z => z.elim) pss_nil) h2) fun D σ H ⟨HH, B, eq, so, tb, q⟩ => ⟨HH, B, eq, so, tb, fun B' H' e' so' tb' => by
    show (if false = true then _ else _)
    rw [if_neg Bool.false_ne_true]
    exact ⟨HH, B', e', so', tb', q⟩⟩
theorem z_told (j : Nat) {x : Str} {px : Pos} (hN : X.N.Nodup) (h : PE X e (tTo T ρ d)) (h2 : PSs X r (tZ T (ρ.set j (.dat d)))) (hj : j < ρ.length := by exact Nat.le_of_ble_eq_true rfl) (hi : X.N[j]? = some x := by rfl) (hx : Loc X.env.scope x := by first | exact Or.inl rfl | exact Or.inr rfl) (hs : swapsWith e (some (.Name x px)) pos.line X.env = pure false := by rfl) (hf : X.fn x = true ∨ X.env.scope.names.lookup x = some .local := by first | exact .inl rfl | exact .inr rfl) :
    PSs X (.Assign [.Name x px] e pos :: r) (tZ T ρ) :=
  pss_mono (pss_cons (ps_set hN hi hx h hs hf) h2) fun D σ H ⟨HH, B, eq, so, tb, q⟩ => ⟨HH, B, eq, so, tb, fun v B' H' e' so' tb' hv => ⟨HH, B', e', so'.setDat hv hj, tb', q⟩⟩
end
section
variable {X : Cx} {ρ : Dc.Env} {a b : Expr} {pos : Pos}
theorem pd_geN {i j : Nat} (ha : PD X a ρ (dN i)) (hb : PD X b ρ (dN j)) : PD X (.Compare a [.GtE] [b] pos) ρ (.bool (decide (j ≤ i))) := (pd_ge ha hb).is (by congr 1; rw [decide_eq_decide]; exact Int.ofNat_le)
end
theorem sh_Net (N : Nt.Net) : Sh 3 (dNet N) := sh_tup fun d hd => by
  rcases List.mem_cons.mp hd with e | hd
  · rw [e]; exact sh_int _
  · rw [List.mem_singleton.mp hd]
    exact (sh_tup (sh_map fun k => sh_T k)).mono (by decide)
theorem pl_T (l : List Nat) (h : l.length ≤ 1000) : Pl 1 (dT l) := .tup (fun d hd => by
  obtain ⟨a, _, rfl⟩ := List.mem_map.mp hd
  exact .int _) (by rw [List.length_map]; exact h)
theorem fr_mem {N : Nt.Net} {g : List Nat} (h : g ∈ N.2) : ∃ p, N.1 ≤ p ∧ p < Nt.size N ∧ Nt.fr N p = g := by
  obtain ⟨k, hk, e⟩ := List.mem_iff_getElem.mp h
  exact ⟨N.1 + k, Nat.le_add_right _ _, by unfold Nt.size; omega, (Nt.fr_at hk).trans e⟩
theorem pl_Net {N : Nt.Net} (ok : Nt.Ok N) : Pl 3 (dNet N) := .tup (fun d hd => by
  rcases List.mem_cons.mp hd with e | hd
  · rw [e]; exact .int _
  · rw [List.mem_singleton.mp hd]
    refine .tup (fun d hd => ?_) (by rw [List.length_map]; have := ok.few; omega)
    obtain ⟨g, hg, rfl⟩ := List.mem_map.mp hd
    obtain ⟨p, h1, h2, rfl⟩ := fr_mem hg
    exact pl_T _ (by have := ok.frlen p; have := ok.size; omega)) (Nat.le_of_ble_eq_true rfl)
section
variable {P : Program} {w : World} {K : PySem.W.Frag} {mg : Str → Option Value} {base : Heap} {f : Addr} {fd : FuncData} {C G T g c Pt : Addr} {fdT : FuncData}
def spRest (K : PySem.W.Frag) (Pt : Addr) (q : Str) : Sp := fun vs H Q _ => ∃ (r a : Addr) (ns : List Int) (B : Hp) (N : Nt.Net) (v : V), vs = [.ref r, v] ∧ Same B H ∧ B r = none ∧ Rw K r a ns H ∧ Dd B v (dNet N) ∧ Nt.Ok N ∧ LamX.Tabs [(Pt, q)] H ∧ ∀ H', Q (.bl true) H'
theorem w_L_rest (M : Mg mg) (Z : ToldK K mg C G T) (FT : FnP K "_law_told" s_L_told g fdT) (gm : mg "_law_told" = some (.ref g)) (bd : Binds K fdT ["_law_work"] []) (H1 : Has P w K mg base "_law_taken" 1 ["_law_row", "_law_many"] (spTk K)) (H2 : HasX P w K mg base "cut" 4 ["net", "person", "other"] (spX C RCut XCut)) (H3 : HasX P w K mg base "tied" 4 ["net", "person", "other"] (spX C RTied XTied))
    (H4 : Has P w K mg base "_law_alike" 4 ["_law_found", "_law_due"] (spD (RAlike 3))) (H5 : Has P w K mg base "_law_cut" 1 ["_law_net_here", "_law_who", "_law_other"] (spD RCutIn)) (H6 : Has P w K mg base "taken_out" 4 ["net", "person"] (spD ROut)) (H7 : Has P w K mg base "_law_left" 1 ["_law_net_here", "_law_kept"] (spD RLeft))
    (TB : LamX.TabB base mg c Pt) (F : FnP K "_law_rest" s_L_rest f fd) (hc : fd.code = .ref c) : FnOk P w K mg base CX0 7 f fd ["_law_row", "_law_net_here"] (spRest K Pt qq) := by
  obtain ⟨oc, od, dV, kV, doc, pm, an, cdv, ct, osl, rfl, lk, hcd, _, _⟩ := F.ex
  have hcdv : cdv = .ref c := hc
  subst hcdv
  refine fn_of lk hcd sc_L_rest (fun vs H Q E ⟨r, a, ns, B, N, v, e, _⟩ => by rw [e]; rfl) fun A outer s0 H0 vs Q0 E hr h => ?_
  obtain ⟨r, a, ns, B0, T0, v, rfl, eq0, hB0, w0, hv, ok, tb0, q0⟩ := h
  have N := sc_L_rest.nd
  have h9 := ok.size
  have few := ok.few
  have st := start_raw (B := B0) (H := H0) (N := n_L_rest) (v := .ref r) (vs := [v]) (ds := [dNet T0]) (m := 6) (.cons hv .nil) rfl
  have szE : SN1 (cxOf CX0 P w K mg base n_L_rest "_law_rest" (defScope s_L_rest) f (.ref c) A outer s0 H0 E).nox (stAt (defBody s_L_rest) 0) [.raw (.ref r), .dat (dNet T0), .no, .no, .no, .no, .no, .no] [.raw (.ref r), .dat (dNet T0), .dat (dN (Nt.size T0)), .no, .no, .no, .no, .no] :=
    sn_set 2 N (pd_addN (pd_ixTN (pd_v 1) (pd_n 0) rfl) (pd_lenN M.len (pd_ixTN (pd_v 1) (pd_n 1) rfl) isTup (List.length_map ..)))
  have hs0 : (0 : Int) < (Nt.size T0 : Nat) := by have := ok.lo; unfold Nt.size; omega
  have hs1 : ((Nt.size T0 : Nat) : Int) < 1000000 := by omega
  have draws : PS (cxOf CX0 P w K mg base n_L_rest "_law_rest" (defScope s_L_rest) f (.ref c) A outer s0 H0 E).nox (stAt (defBody s_L_rest) 1) (fun D σ H => ∃ HH B, Same B H ∧ B r = none ∧ Rw K r a ns H ∧ Sok HH B H σ [.raw (.ref r), .dat (dNet T0), .dat (dN (Nt.size T0)), .no, .no, .no, .no, .no] ∧ ∀ (p o : Nat) σ' B' H', p < Nt.size T0 → o < Nt.size T0 → DG K r a ns B H B' H' → Sok HH B' H' σ' [.raw (.ref r), .dat (dNet T0), .dat (dN (Nt.size T0)), .no, .no, .dat (dN o), .dat (dN p), .no] → D.nx σ' H') :=
    ps_mono (ps_asg (pe_tup (pa_cons (pe_draw (r := r) (a := a) (ns := ns) (ρ := [.raw (.ref r), .dat (dNet T0), .dat (dN (Nt.size T0)), .no, .no, .no, .no, .no]) H1 hr (pd_v 2) hs0 hs1) (pa_cons (pe_draw (r := r) (a := a) (ns := ns) (ρ := [.raw (.ref r), .dat (dNet T0), .dat (dN (Nt.size T0)), .no, .no, .no, .no, .no]) H1 hr (pd_v 2) hs0 hs1) pa_nil))) (pg_tup rfl (pgs_cons (pg_name (i := 6) N rfl (Or.inr rfl) (.inl rfl)) (pgs_cons (pg_name (i := 5) N rfl (Or.inr rfl) (.inl rfl)) pgs_nil)))) fun D σ H ⟨HH, B, eq, hB, w, so, q⟩ => ⟨HH, B, eq, hB, w, so, fun p B1 H1 hp g1 => ⟨HH, B1, g1.sub, g1.off w hB, g1.row, so.dg (no_own rfl) g1, fun o B2 H2 ho g2 => ⟨by show 2 ≤ sizeLine; decide, fun t ht => by
      have g12 := g1.trans g2
      have g3 : Grow B2 H2 B2 (upd H2 t (.tup [.int p, .int o])) := .aside g2.sub ht
      have so2 := (((so.dg (no_own rfl) g12).grow g3).setDat (j := 6) (d := dN p) (.int _) (Nat.le_of_ble_eq_true rfl)).setDat (j := 5) (d := dN o) (.int _) (Nat.le_of_ble_eq_true rfl)
      exact ⟨t, _, rfl, .inl (.inl upd_same), rfl, _, _, rfl, _, _, rfl, rfl, q p o _ B2 _ (by omega) (by omega) (g12.step g3) so2⟩⟩⟩⟩
  have tail : ∀ p o : Nat, p < Nt.size T0 → o < Nt.size T0 → PSs (cxOf CX0 P w K mg base n_L_rest "_law_rest" (defScope s_L_rest) f (.ref c) A outer s0 H0 E).nox ((defBody s_L_rest).drop 2) (tZ [(Pt, qq)] [.raw (.ref r), .dat (dNet T0), .dat (dN (Nt.size T0)), .no, .no, .dat (dN o), .dat (dN p), .no]) := fun p o hp ho => by
    refine z_cons (sn_set 3 N (d := dT (Nt.fr T0 p)) (pd_if (ptd_geN (pd_v 6) (pd_ixTN (pd_v 1) (pd_n 0) rfl)) (fun h => pd_ixTN (pd_ixTN (pd_v 1) (pd_n 1) rfl) (pd_subN (pd_v 6) (pd_ixTN (pd_v 1) (pd_n 0) rfl) (of_decide_eq_true h)) (fr_dat (of_decide_eq_true h) hp)) (fun h => PD.to (pd_tup pds_nil) (by rw [Nt.fr_in (by have := of_decide_eq_false h; omega)] <;> rfl)))) ?_
    have hfl := ok.frlen p
    -- cut, told
    have cutd : ∃ d, Pl 3 d ∧ (RCut [dNet T0, dN p, dN o] d ∨ (XCut [dNet T0, dN p, dN o] ∧ d = .none)) ∧ d = if o ∈ Nt.fr T0 p then dNet (Nt.cut T0 p o) else .none := by
      by_cases h : o ∈ Nt.fr T0 p
      · exact ⟨dNet (Nt.cut T0 p o), pl_Net (ok.cut (fr_gate h)), .inl ⟨T0, p, o, ok, hp, ho, h, rfl, rfl⟩, by rw [if_pos h]⟩
      · exact ⟨.none, .non, .inr ⟨⟨T0, p, o, ok, hp, ho, h, rfl⟩, rfl⟩, by rw [if_neg h]⟩
    obtain ⟨dc, plc, resc, ec⟩ := cutd
    obtain ⟨fa, fda, a1, a2, a3, a4⟩ := H4.ok
    refine z_unless (pt_mono (pt_not (pt_val (pe_call (E := fun _ _ _ => False) a1 (hr.mono (by decide)) rfl a2 a3 a4 .nil pass0 (pa_cons (pe_told (d := dc) Z FT gm bd H2 TB rfl hr (fun A outer s H E f c' => pds_cons (pd_v 1) (pds_cons (pd_v 6) (pds_one (pd_v 5)))) resc) (pds_one (d := dc) (pd_if (ptd_inN (pd_v 5) (pd_v 3) isTup) (fun h => ?_) (fun h => ?_))))))) fun σ H Q ⟨HH, B, eq, so, tb, q⟩ => ⟨HH, B, eq, so, tb, fun v B1 H1 e1 so1 tb1 hv => ⟨HH, B1, e1, so1, fun vs B2 H2 g2 h2 => ?_⟩⟩) ?_
    · have hm := of_decide_eq_true h
      rw [ec, if_pos hm]
      exact pd_call H5 hr (pds_cons (pd_v 1) (pds_cons (pd_v 6) (pds_one (pd_v 5)))) ⟨T0, p, o, fr_gate hm, hp, ok, rfl, rfl⟩
    · have hm := of_decide_eq_false h
      rw [ec, if_neg hm]
      exact pd_non
    · show spD (RAlike 3) ((v :: vs) ++ []) H2 _ _
      rw [List.append_nil]
      exact ⟨B2, [dc, dc], .bool true, g2.sub, .cons (hv.mono g2.bb) h2, ⟨dc, plc, rfl, rfl⟩, fun u B3 H3 g3 hu => ⟨true, hu.bl_inv, q B3 H3 g3.sub ((so1.grow g2).grow g3) ((tb1.ext g2.ext).ext g3.ext)⟩⟩
    -- tied, told
    have tied : ∃ d, (RTied [dNet T0, dN p, dN o] d ∨ (XTied [dNet T0, dN p, dN o] ∧ d = .none)) ∧ ((T0.1 ≤ p ∧ o < p ∧ o ∉ Nt.fr T0 p ∧ d = dNet (Nt.tie T0 p o)) ∨ ((p < T0.1 ∨ p ≤ o ∨ o ∈ Nt.fr T0 p) ∧ d = .none)) := by
      by_cases h : p < T0.1 ∨ p ≤ o ∨ o ∈ Nt.fr T0 p
      · exact ⟨.none, .inr ⟨⟨T0, p, o, ok, hp, ho, h, rfl⟩, rfl⟩, .inr ⟨h, rfl⟩⟩
      · have h1 : T0.1 ≤ p := Nat.le_of_not_lt fun z => h (.inl z)
        have h2 : o < p := Nat.lt_of_not_le fun z => h (.inr (.inl z))
        have h3 : o ∉ Nt.fr T0 p := fun z => h (.inr (.inr z))
        exact ⟨_, .inl ⟨T0, p, o, ok, hp, h1, h2, h3, rfl, rfl⟩, .inl ⟨h1, h2, h3, rfl⟩⟩
    obtain ⟨dt, rest, ct'⟩ := tied
    refine z_told 4 N (pe_told (d := dt) Z FT gm bd H3 TB rfl hr (fun A outer s H E f c' => pds_cons (pd_v 1) (pds_cons (pd_v 6) (pds_one (pd_v 5)))) rest) ?_
    refine z_cons (sn_unless (PTD.to (ptd_ne hr.units (pd_isN (pd_v 4)) (pd_or (pd_ltN (pd_v 6) (pd_ixTN (pd_v 1) (pd_n 0) rfl)) fun _ => pd_or (pd_geN (pd_v 5) (pd_v 6)) fun _ => pd_one (pd_inN (pd_v 5) (pd_v 3) isTup)) rfl rfl) ?_)) ?_
    · rcases ct' with ⟨h1, h2, h3, rfl⟩ | ⟨h, rfl⟩
      · rw [decide_eq_false (show ¬ p < T0.1 by omega), decide_eq_false (show ¬ p ≤ o by omega), decide_eq_false h3] <;> rfl
      · have e : (decide (p < T0.1) || (decide (p ≤ o) || decide (o ∈ Nt.fr T0 p))) = true := by
          rcases h with z | z | z
          · rw [decide_eq_true z] <;> rfl
          · rw [decide_eq_true z, Bool.true_or, Bool.or_true]
          · rw [decide_eq_true z, Bool.or_true, Bool.or_true]
        rw [e] <;> rfl
    refine z_cons (ρ1 := [.raw (.ref r), .dat (dNet T0), .dat (dN (Nt.size T0)), .dat (dT (Nt.fr T0 p)), .dat dt, .dat (dN o), .dat (dN p), .no]) ?_ ?_
    · rcases ct' with ⟨h1, h2, h3, rfl⟩ | ⟨h, rfl⟩
      · refine sn_unless (PTD.to (PW.pt (pwd_and (ptd_notN (pd_v 4)) fun _ => pwd_and1 (PW.pt (pwd_or (ptd_ne hr.units (pd_callX H2 hr (pds_cons (pd_v 4) (pds_cons (pd_v 6) (pds_one (pd_v 5)))) ⟨Nt.tie T0 p o, p, o, ok.tie h1 hp, by rw [Nt.size_tie]; exact hp, by rw [Nt.size_tie]; exact ho, by rw [Nt.fr_tie h1 hp, if_pos rfl]; exact Nt.mem_sd.mpr ⟨h2, List.mem_cons_self⟩, rfl, rfl⟩) (pd_v 1) (sh_Net _).shaped (sh_Net _).shaped) fun _ => pwd_or1 (ptd_notInN (ns := Nt.sd p (o :: Nt.fr T0 p)) (pd_v 5) (pd_ixTN (d := dT (Nt.sd p (o :: Nt.fr T0 p))) (pd_ixTN (pd_v 4) (pd_n 1) rfl) (pd_subN (pd_v 6) (pd_ixTN (pd_v 1) (pd_n 0) rfl) h1) ?_) isTup))))) ?_)
        · have e := fr_dat (N := Nt.tie T0 p o) (p := p) h1 (by rw [Nt.size_tie]; exact hp)
          rw [Nt.fr_tie h1 hp, if_pos rfl] at e
          exact e
        · rw [Nt.cut_tie ok h1 hp h3, (sh_Net T0).refl, decide_eq_true (Nt.mem_sd.mpr ⟨h2, List.mem_cons_self⟩)] <;> rfl
      · exact sn_unless (PTD.to (PW.pt (pwd_and (k' := false) (ptd_notN (d := .none) (pd_v 4)) fun z => Bool.noConfusion (show false = true from z))) rfl)
    · refine z_ret (Dc.SR1.is' (sr_ret (pd_or (pd_ltN (pd_v 6) (pd_ixTN (pd_v 1) (pd_n 0) rfl)) fun hh => pd_one (pd_call (d := .bool true) H4 hr (pds_cons (d := dNet (Nt.left T0 (Nt.others T0 p))) (pd_call H6 hr (pds_cons (pd_v 1) (pds_one (pd_v 6))) ?_) (pds_one (d := dNet (Nt.left T0 (Nt.others T0 p))) (pd_call H7 hr (pds_cons (pd_v 1) (pds_one (pd_lcF 7 N (pid_range1 M.range (pd_v 2) (by omega)) rfl (fun o ho s H C cl fp => ptd_neN hr.units (pd_v 7) (pd_v 6)) (fun o ho hh s H C cl fp => pd_v 7) (by rw [List.length_range]; omega)))) ?_))) ?_))) ?_)
      · have hge := of_decide_eq_false hh
        exact ⟨T0, p, ok, by omega, hp, rfl, rfl⟩
      · have hge := of_decide_eq_false hh
        exact ⟨T0, Nt.others T0 p, ok, Nt.kept_others (by omega), rfl, rfl⟩
      · have hge := of_decide_eq_false hh
        exact ⟨_, pl_Net (ok.left (Nt.kept_others (by omega))), rfl, rfl⟩
      · rw [Bool.or_true]
  refine ⟨_, PSs.nox (pss_cons szE (pss_cons draws (pss_mono (t := fun D σ H => ∃ q : {q : Nat × Nat // q.1 < Nt.size T0 ∧ q.2 < Nt.size T0}, tZ [(Pt, qq)] [.raw (.ref r), .dat (dNet T0), .dat (dN (Nt.size T0)), .no, .no, .dat (dN q.1.2), .dat (dN q.1.1), .no] D σ H) ⟨fun pins s σ H D I ⟨q, h⟩ => (tail q.1.1 q.1.2 q.2.1 q.2.2).run pins s σ H D I h⟩ fun _ _ _ z => z))), ?_⟩
  refine ⟨B0, H0, B0, .refl eq0, st, fun σ1 B1 H1 g1 _ so1 => ⟨H0, B1, g1.sub, g1.sep r w0.ne hB0, w0.ext g1.ext, so1, fun p o σ2 B2 H2 hp ho g2 so2 => ⟨⟨(p, o), hp, ho⟩, H0, B2, g2.sub, so2, tabs_dg (w0.ext g1.ext) g2 (tb0.ext g1.ext), q0⟩⟩⟩
end
end Wk
end

section
set_option maxHeartbeats 4000000
namespace Wk
open PySem PySem.Spec PyProof.Rows L2 Dc Tx
structure LH (P : Program) (w : World) (K : PySem.W.Frag) (mg : Str → Option Value) (base : Heap) : Prop where
  paper : Has P w K mg base "_law_paper" 2 ["_law_net_here"] (spF RPaper)
  cut : Has P w K mg base "_law_cut" 1 ["_law_net_here", "_law_who", "_law_other"] (spD RCutIn)
  left : Has P w K mg base "_law_left" 1 ["_law_net_here", "_law_kept"] (spD RLeft)
  upper : Has P w K mg base "_law_upper" 1 ["_law_net_here", "_law_answers_here"] (spD RKeep)
  alike : Has P w K mg base "_law_alike" 6 ["_law_found", "_law_due"] (spD (RAlike 5))
  nf : Has P w K mg base "needless_friends" 5 ["net", "answers"] (spD RNF)
  np : Has P w K mg base "needless_people" 4 ["net", "answers"] (spD RNP)
  thin : Has P w K mg base "is_thin" 5 ["net", "answers"] (spD RThin)
  needed : Has P w K mg base "only_needed" 4 ["net", "answers"] (spD RNeeded)
  thinned : Has P w K mg base "thinned" 5 ["net", "answers"] (spD RThinned)
  joined : Has P w K mg base "joined" 4 ["net", "answers"] (spD RJoined)
  same : Has P w K mg base "same_answers" 4 ["one", "answers", "other", "others"] (spD RSame)
abbrev LE (r : Addr) (N : Nt.Net) (as : List Nat) (t : List Sl) : Dc.Env := .no :: .raw (.ref r) :: .dat (dNet N) :: .dat (dT as) :: .dat (dN (Nt.size N)) :: .fdat (.tuple ((Nt.paper N).map dT)) :: t
abbrev SG (N : Nt.Net) (as : List Nat) : Sl := .dat (.list ((Nt.tabs N as).map dT))
abbrev SQ (l : List (Nat × Nat)) : Sl := .dat (.list (l.map dQ))
abbrev SNs (l : List Nat) : Sl := .dat (.list (l.map dN))
theorem rep_if {α : Type} (b : Bool) (x : α) : (List.replicate b.toNat [x]).flatten = if b = true then [x] else [] := by
  cases b <;> rfl
abbrev XLaw (P : Program) (w : World) (K : PySem.W.Frag) (mg : Str → Option Value) (base : Heap) (f : Addr) (cdv : Value) (A : Around) (outer : List PySem.Env) (s0 : Shared) (H0 : Hp) (E : XK) : Cx := (cxOf CX0 P w K mg base n_Law "law" (defScope s_Law) f cdv A outer s0 H0 E).nox
section
variable {P : Program} {w : World} {K : PySem.W.Frag} {mg : Str → Option Value} {base : Heap} {f : Addr} {cdv : Value} {A : Around} {outer : List PySem.Env} {s0 : Shared} {H0 : Hp} {E : XK} {r : Addr} {N : Nt.Net} {as : List Nat}
/-- goal, idle, gone -/
theorem y3 (an : ∀ x ∈ as, x < Nt.size N) (hf : as.length ≤ 9) : SN1 (XLaw P w K mg base f cdv A outer s0 H0 E) (stAt (defBody s_Law) 3) (LE r N as [.no, .no, .no, .no, .no, .no, .no, .no, .no, .no, .no, .no, .no, .no, .no, .no, .no, .no, .no]) (LE r N as [.no, SG N as, SQ [], SNs [], .no, .no, .no, .no, .no, .no, .no, .no, .no, .no, .no, .no, .no, .no, .no]) :=
  SN1.is (sn_par3 7 8 9 rfl sc_Law.nd (pds_cons (d := .list ((Nt.tabs N as).map dT)) (PD.to (pd_lcA (g := fun p => dT ((Nt.paper N).getD p [])) 6 sc_Law.nd (pid_tup (pd_v 3)) rfl (fun p hp s H C cl fp => pd_ixTN (pd_vf 5) (pd_v 6) (getD_mapT (by rw [Nt.paper_len]; exact an p hp)))) (by
    unfold Nt.tabs
    rw [List.map_map] <;> rfl)) (pds_cons (pd_lst pds_nil) (pds_one (pd_lst pds_nil))))) rfl
/-- idle, gone -/
theorem y4 (M : Mg mg) (Hs : LH P w K mg base) (hr : Room 7 (XLaw P w K mg base f cdv A outer s0 H0 E).A) (ok : Nt.Ok N) (an : Nt.Ans N as) : SN1 (XLaw P w K mg base f cdv A outer s0 H0 E) (stAt (defBody s_Law) 4) (LE r N as [.no, SG N as, SQ [], SNs [], .no, .no, .no, .no, .no, .no, .no, .no, .no, .no, .no, .no, .no, .no, .no]) (LE r N as [.no, SG N as, SQ (Nt.needless N as), SNs (Nt.gone N as), .no, .no, .no, .no, .no, .no, .no, .no, .no, .no, .no, .no, .no, .no, .no]) := by
  have h9 := ok.size
  have h6 := ok.few
  have hf := ans_few ok an
  have hgl : ∀ a ∈ Nt.gates N, (Nt.nlAt N as a).length ≤ 9 := fun a ha => nl_len ok as (Nt.mem_gates.mp ha).2
  have N_ := sc_Law.nd
  refine SN1.is (sn_for (Nt.gates N) dN (fun i => LE r N as [.no, SG N as, SQ (((Nt.gates N).take i).flatMap (Nt.nlAt N as)), SNs (((Nt.gates N).take i).filter (Nt.goneB N as)), .no, .no, .no, .no, .no, .no, .no, .no, .no, .no, .no, .no, .no, .no, .no])
    (fun i => LE r N as [.dat (dN ((Nt.gates N).getD i 0)), SG N as, SQ (((Nt.gates N).take i).flatMap (Nt.nlAt N as)), SNs (((Nt.gates N).take i).filter (Nt.goneB N as)), .no, .no, .no, .no, .no, .no, .no, .no, .no, .no, .no, .no, .no, .no, .no]) PassesOwn.never rfl
    (pid_range2 (n := N.2.length) M.range (pd_ixTN (pd_v 2) (pd_n 0) rfl) (pd_v 4) rfl (by unfold Nt.size at h9; omega)) (gates_dat N) rfl (fun i a ha => ?_) (fun i a ha => ?_)) (by rw [List.take_length, ← Nt.needless_gates]; rfl)
  · have e4 : (Nt.gates N).getD i 0 = a := by rw [List.getD_eq_getElem?_getD, ha] <;> rfl
    rw [e4]
    exact pgd_name 6 N_
  · have e4 : (Nt.gates N).getD i 0 = a := by rw [List.getD_eq_getElem?_getD, ha] <;> rfl
    rw [e4, take_flat ha]
    have tf := take_filter (f := Nt.goneB N as) (g := dN) ha
    obtain ⟨g1, g2⟩ := Nt.mem_gates.mp (List.mem_of_getElem? ha)
    have hfl := ok.frlen a
    have hb : (((Nt.gates N).take i).flatMap (Nt.nlAt N as)).length ≤ 54 := by
      have := flat_len (l := (Nt.gates N).take i) (f := Nt.nlAt N as) (c := 9) fun x hx => hgl x (List.mem_of_mem_take hx)
      rw [List.length_take, gates_len] at this
      have h7 : min i N.2.length * 9 ≤ 6 * 9 := Nat.mul_le_mul_right _ (by omega)
      omega
    have hb2 : (((Nt.gates N).take i).filter (Nt.goneB N as)).length ≤ 6 := by
      have := List.length_filter_le (Nt.goneB N as) ((Nt.gates N).take i)
      rw [List.length_take, gates_len] at this
      omega
    show SN _ _ _ (LE r N as [.no, SG N as, SQ _, .dat (.list (((((Nt.gates N).take (i + 1)).filter (Nt.goneB N as))).map dN)), .no, .no, .no, .no, .no, .no, .no, .no, .no, .no, .no, .no, .no, .no, .no])
    rw [tf]
    generalize ((Nt.gates N).take i).flatMap (Nt.nlAt N as) = bs at hb
    generalize ((Nt.gates N).take i).filter (Nt.goneB N as) = gs at hb2
    refine SN.is (sn_forget 6 (sn_forget 10 (sn_forget 11 (sn_cons (SN1.is (sn_for (Nt.fr N a) dN (fun j => LE r N as [.dat (dN a), SG N as, .dat (.list (bs.map dQ ++ (((Nt.fr N a).take j).filter fun o => Nt.tabs (Nt.cut N a o) as == Nt.tabs N as).map fun o => dQ (a, o))), SNs gs, .no, .no, .no, .no, .no, .no, .no, .no, .no, .no, .no, .no, .no, .no, .no])
      (fun j => LE r N as [.dat (dN a), SG N as, .dat (.list (bs.map dQ ++ (((Nt.fr N a).take j).filter fun o => Nt.tabs (Nt.cut N a o) as == Nt.tabs N as).map fun o => dQ (a, o))), SNs gs, .dat (dN ((Nt.fr N a).getD j 0)), .no, .no, .no, .no, .no, .no, .no, .no, .no, .no, .no, .no, .no, .no]) PassesOwn.never rfl
      (pid_tup (pd_ixTN (pd_ixTN (pd_v 2) (pd_n 1) rfl) (pd_subN (pd_v 6) (pd_ixTN (pd_v 2) (pd_n 0) rfl) g1) (fr_dat g1 g2))) rfl (by simp) (fun j o ho => ?_) (fun j o ho => ?_)) rfl)
      (sn_one (sn_if (ρ1 := LE r N as [.dat (dN a), SG N as, SQ (bs ++ Nt.nlAt N as a), .dat (.list (gs.map dN ++ if Nt.goneB N as a = true then [dN a] else [])), .no, .no, .no, .no, .no, .no, .no, .no, .no, .no, .no, .no, .no, .no, .no]) (ptd_notInN (pd_v 6) (pd_v 3) isTup) (fun h => ?_) (fun h => ?_))))))) rfl
    · have e5 : (Nt.fr N a).getD j 0 = o := by rw [List.getD_eq_getElem?_getD, ho] <;> rfl
      rw [e5]
      exact pgd_name 10 N_
    · have e5 : (Nt.fr N a).getD j 0 = o := by rw [List.getD_eq_getElem?_getD, ho] <;> rfl
      rw [e5, take_filter ho]
      have hjl : ((((Nt.fr N a).take j).filter fun o => Nt.tabs (Nt.cut N a o) as == Nt.tabs N as).map fun o => dQ (a, o)).length ≤ 9 := by
        rw [List.length_map]
        have h1 := List.length_filter_le (fun o => Nt.tabs (Nt.cut N a o) as == Nt.tabs N as) ((Nt.fr N a).take j)
        rw [List.length_take] at h1
        omega
      generalize (((Nt.fr N a).take j).filter fun o => Nt.tabs (Nt.cut N a o) as == Nt.tabs N as).map (fun o => dQ (a, o)) = cs at hjl
      refine SN.is (sn_forget 10 (sn_forget 11 (sn_cons (sn_set 11 N_ (pd_call Hs.paper.plain hr (pds_one (pd_call Hs.cut hr (pds_cons (pd_v 2) (pds_cons (pd_v 6) (pds_one (pd_v 10)))) ⟨N, a, o, g1, g2, ok, rfl, rfl⟩)) ⟨Nt.cut N a o, ok.cut g1, rfl, rfl⟩)) (sn_one (sn_set 8 N_ (pd_catL (pd_v 8) (pd_rep (k := (Nt.tabs (Nt.cut N a o) as == Nt.tabs N as).toNat) (pd_lst (pds_one (d := dQ (a, o)) (pd_tup (pds_cons (pd_v 6) (pds_one (pd_v 10)))))) (pd_intBN M.int (PD.to (pd_eq hr.units (PD.to (d' := .list ((Nt.tabs (Nt.cut N a o) as).map dT)) (pd_lcA (g := fun p => dT ((Nt.paper (Nt.cut N a o)).getD p [])) 23 N_ (pid_tup (pd_v 3)) rfl ?_) ?_) (pd_v 7) (sh_tabs _).shaped (sh_tabs _).shaped) (by rw [eqv_tabsL]))) rfl ?_ ?_) ?_)))))) ?_
      · intro p hp s H C cl fp
        exact pd_ixTN (pd_v 11) (pd_v 23) (getD_mapT (by rw [Nt.paper_len, Nt.size_cut]; exact an.lt p hp))
      · unfold Nt.tabs
        rw [List.map_map] <;> rfl
      · cases Nt.tabs (Nt.cut N a o) as == Nt.tabs N as <;> decide
      · exact Nat.le_of_ble_eq_true rfl
      · rw [rep_if, List.length_append, List.length_map]
        have : (if (Nt.tabs (Nt.cut N a o) as == Nt.tabs N as) = true then [dQ (a, o)] else []).length ≤ 1 := by split <;> first | exact Nat.le_refl _ | exact Nat.zero_le _
        omega
      · rw [rep_if, List.append_assoc] <;> rfl
    · have hna : a ∉ as := fun z => by rw [decide_eq_true z] at h; cases h
      have lt2 : ∀ b ∈ as, Nt.shift a b < Nt.size (Nt.left N (Nt.others N a)) := fun b hb => Nt.shift_lt g1 g2 (an.lt b hb) fun z => hna (z ▸ hb)
      have okl := ok.left (Nt.kept_others (N := N) g1)
      refine SN.is (sn_forget 11 (sn_cons (sn_set 11 N_ (pd_call Hs.paper.plain hr (pds_one (pd_call Hs.left hr (pds_cons (pd_v 2) (pds_one (pd_lcF (f := fun o => o != a) 23 N_ (pid_range1 M.range (pd_v 4) (by omega)) rfl (fun o ho s H C cl fp => ptd_neN hr.units (pd_v 23) (pd_v 6)) (fun o ho hh s H C cl fp => pd_v 23) (by rw [List.length_range]; omega)))) ⟨N, Nt.others N a, ok, Nt.kept_others g1, rfl, rfl⟩)) ⟨Nt.left N (Nt.others N a), okl, rfl, rfl⟩)) (sn_one (sn_set 9 N_ (pd_catL (pd_v 9) (pd_rep (k := (Nt.tabs (Nt.left N (Nt.others N a)) (as.map (Nt.shift a)) == Nt.tabs N as).toNat) (pd_lst (pds_one (d := dN a) (pd_v 6))) (pd_intBN M.int (PD.to (pd_eq hr.units (PD.to (d' := .list ((Nt.tabs (Nt.left N (Nt.others N a)) (as.map (Nt.shift a))).map dT)) (pd_lcA (g := fun p => dT ((Nt.paper (Nt.left N (Nt.others N a))).getD (Nt.shift a p) [])) 23 N_ (pid_tup (pd_v 3)) rfl ?_) ?_) (pd_v 7) (sh_tabs _).shaped (sh_tabs _).shaped) (by rw [eqv_tabsL]))) rfl ?_ ?_) ?_))))) ?_
      · intro p hp s H C cl fp
        exact pd_ixTN (pd_v 11) (pd_subN (pd_v 23) (pd_intBN M.int (pd_gtN (pd_v 23) (pd_v 6))) (shift_dat N p a fun z => by have := of_decide_eq_true z; omega)) (getD_mapT (by rw [Nt.paper_len]; exact lt2 p hp))
      · unfold Nt.tabs
        rw [List.map_map, List.map_map] <;> rfl
      · cases Nt.tabs (Nt.left N (Nt.others N a)) (as.map (Nt.shift a)) == Nt.tabs N as <;> decide
      · exact Nat.le_of_ble_eq_true rfl
      · rw [rep_if, List.length_map]
        have : (if (Nt.tabs (Nt.left N (Nt.others N a)) (as.map (Nt.shift a)) == Nt.tabs N as) = true then [dN a] else []).length ≤ 1 := by split <;> first | exact Nat.le_refl _ | exact Nat.zero_le _
        omega
      · have eg : Nt.goneB N as a = (Nt.tabs (Nt.left N (Nt.others N a)) (as.map (Nt.shift a)) == Nt.tabs N as) := by
          unfold Nt.goneB
          rw [decide_eq_false hna] <;> rfl
        rw [rep_if, eg, List.take_length]
        show LE r N as _ = LE r N as [_, _, .dat (.list ((bs ++ Nt.nlAt N as a).map dQ)), _, _, _, _, _, _, _, _, _, _, _, _, _, _, _, _]
        rw [List.map_append]
        unfold Nt.nlAt
        rw [List.map_map] <;> rfl
    · have ha' : a ∈ as := by
        by_cases z : a ∈ as
        · exact z
        · rw [decide_eq_false z] at h; cases h
      have eg : Nt.goneB N as a = false := by
        unfold Nt.goneB
        rw [decide_eq_true ha'] <;> rfl
      refine SN.is sn_nil ?_
      rw [eg, if_neg Bool.false_ne_true, List.append_nil, List.take_length]
      show LE r N as _ = LE r N as [_, _, .dat (.list ((bs ++ Nt.nlAt N as a).map dQ)), _, _, _, _, _, _, _, _, _, _, _, _, _, _, _, _]
      rw [List.map_append]
      unfold Nt.nlAt
      rw [List.map_map] <;> rfl
end
end Wk
end

section
set_option maxHeartbeats 4000000
namespace Wk
open PySem PySem.Spec PyProof.Rows L2 Dc Tx
theorem pl_Q (q : Nat × Nat) : Pl 1 (dQ q) := .tup (fun d hd => by
  rcases List.mem_cons.mp hd with e | hd
  · rw [e]; exact .int _
  · rw [List.mem_singleton.mp hd]; exact .int _) (Nat.le_of_ble_eq_true rfl)
theorem pl_NA {N : Nt.Net} (ok : Nt.Ok N) {as : List Nat} (h : as.length ≤ 1000) : Pl 5 (dNA N as) := Pl.up (n := 4) (.tup (fun d hd => by
  rcases List.mem_cons.mp hd with e | hd
  · rw [e]; exact pl_Net ok
  · rw [List.mem_singleton.mp hd]; exact (pl_T as h).up (by decide)) (Nat.le_of_ble_eq_true rfl)) (by decide)
section
variable {P : Program} {w : World} {K : PySem.W.Frag} {mg : Str → Option Value} {base : Heap} {f : Addr} {cdv : Value} {A : Around} {outer : List PySem.Env} {s0 : Shared} {H0 : Hp} {E : XK} {r : Addr} {N : Nt.Net} {as : List Nat}
/-- upper -/
theorem y5 (Hs : LH P w K mg base) (hr : Room 7 (XLaw P w K mg base f cdv A outer s0 H0 E).A) (ok : Nt.Ok N) (an : Nt.Ans N as) : SN1 (XLaw P w K mg base f cdv A outer s0 H0 E) (stAt (defBody s_Law) 5) (LE r N as [.no, SG N as, SQ (Nt.needless N as), SNs (Nt.gone N as), .no, .no, .no, .no, .no, .no, .no, .no, .no, .no, .no, .no, .no, .no, .no]) (LE r N as [.no, SG N as, SQ (Nt.needless N as), SNs (Nt.gone N as), .no, .no, SNs (Nt.keep N as), .no, .no, .no, .no, .no, .no, .no, .no, .no, .no, .no, .no]) :=
  SN1.is (sn_set 12 sc_Law.nd (pd_call Hs.upper hr (pds_cons (pd_v 2) (pds_one (pd_v 3))) ⟨N, as, ok, an.lt, by have := ans_few ok an; omega, rfl, rfl⟩)) rfl
noncomputable abbrev L6 (r : Addr) (N : Nt.Net) (as : List Nat) : Dc.Env := LE r N as [.no, SG N as, SQ (Nt.needless N as), SNs (Nt.gone N as), .no, .no, SNs (Nt.keep N as), .no, .no, .no, .no, .no, .no, .no, .no, .no, .no, .no, .no]
theorem needless_len {N : Nt.Net} (ok : Nt.Ok N) (as : List Nat) : (Nt.needless N as).length ≤ 54 := by
  rw [Nt.needless_gates]
  have := flat_len (l := Nt.gates N) (f := Nt.nlAt N as) (c := 9) fun x hx => nl_len ok as (Nt.mem_gates.mp hx).2
  rw [gates_len] at this
  have h6 := ok.few
  have h7 : N.2.length * 9 ≤ 6 * 9 := Nat.mul_le_mul_right _ h6
  omega
/-- if not _law_alike(x, y): return False -/
theorem y_alike {X : Cx} {ρ : Dc.Env} {a b : Expr} {A : List Stmt} {p pos pos2 pos3 : Pos} {k : Nat} (d : PyData) (H : Has X.prog X.w X.K X.mg X.base "_law_alike" 6 ["_law_found", "_law_due"] (spD (RAlike 5))) (hr : Room k X.A) (hd : Pl 5 d) (ha : PD X a ρ d) (hb : PD X b ρ d) (hk : 6 ≤ k := by decide) (hg : Gl X "_law_alike" := by rfl)
    (h1 : starEach (a :: [b]) X.env = (false, eval a X.env) :: starEach [b] X.env := by rfl) (h2 : starEach [b] X.env = (false, eval b X.env) :: starEach [] X.env := by rfl) (hpl : (backTo pos (starEach [b] X.env)).any (·.1) = false := by rfl) :
    SN1 X (.If (.UnaryOp .Not (.Call (.Name "_law_alike" p) [a, b] [] pos) pos2) A [] pos3) ρ ρ :=
  sn_unless (PTD.to (ptd_not (ptd_val (k := true) (pd_call H hr (pds_cons ha (pds_one hb h2) h1) ⟨d, hd, rfl, rfl⟩ hk hg (by decide) h1 hpl))) rfl)
theorem y6 (M : Mg mg) (Hs : LH P w K mg base) (hr : Room 7 (XLaw P w K mg base f cdv A outer s0 H0 E).A) (ok : Nt.Ok N) (an : Nt.Ans N as) : SN1 (XLaw P w K mg base f cdv A outer s0 H0 E) (stAt (defBody s_Law) 6) (L6 r N as) (L6 r N as) :=
  y_alike (.tuple ((Nt.needless N as).map dQ)) Hs.alike hr (.tup (fun d hd => by
    obtain ⟨q, _, rfl⟩ := List.mem_map.mp hd
    exact (pl_Q q).up (by decide)) (by rw [List.length_map]; have := needless_len ok as; omega)) (pd_call Hs.nf hr (pds_cons (pd_v 2) (pds_one (pd_v 3))) ⟨N, as, ok, an, rfl, rfl⟩) (pd_tuple M.tuple (pd_v 8))
theorem y7 (M : Mg mg) (Hs : LH P w K mg base) (hr : Room 7 (XLaw P w K mg base f cdv A outer s0 H0 E).A) (ok : Nt.Ok N) (an : Nt.Ans N as) : SN1 (XLaw P w K mg base f cdv A outer s0 H0 E) (stAt (defBody s_Law) 7) (L6 r N as) (L6 r N as) :=
  y_alike (dT (Nt.gone N as)) Hs.alike hr ((pl_T _ (by
    have := List.length_filter_le (Nt.goneB N as) (Nt.gates N)
    rw [gates_len] at this
    have h6 := ok.few
    unfold Nt.gone
    omega)).up (by decide)) (pd_call Hs.np hr (pds_cons (pd_v 2) (pds_one (pd_v 3))) ⟨N, as, ok, an, rfl, rfl⟩) (pd_tuple M.tuple (pd_v 9))
theorem y8 (M : Mg mg) (Hs : LH P w K mg base) (hr : Room 7 (XLaw P w K mg base f cdv A outer s0 H0 E).A) (ok : Nt.Ok N) (an : Nt.Ans N as) : SN1 (XLaw P w K mg base f cdv A outer s0 H0 E) (stAt (defBody s_Law) 8) (L6 r N as) (L6 r N as) :=
  y_alike (.bool ((Nt.needless N as).isEmpty && decide ((Nt.keep N as).length = Nt.size N))) Hs.alike hr (.bl _) (PD.to (pd_call Hs.thin hr (pds_cons (pd_v 2) (pds_one (pd_v 3))) ⟨N, as, ok, an, rfl, rfl⟩) (by rw [Nt.thin_test ok as])) (PD.to (pd_and (pd_eq hr.units (pd_v 8) (pd_lst pds_nil) (Sh.shaped (n := 2) (sh_lst (sh_map fun q => sh_Q q))) rfl) fun _ => pd_one (pd_eqN hr.units (pd_lenN M.len (pd_v 12) isLst (List.length_map ..)) (pd_v 4))) (by
    rw [eqv_nil, List.isEmpty_map]
    congr 2))
theorem y9 (M : Mg mg) (Hs : LH P w K mg base) (hr : Room 7 (XLaw P w K mg base f cdv A outer s0 H0 E).A) (ok : Nt.Ok N) (an : Nt.Ans N as) : SN1 (XLaw P w K mg base f cdv A outer s0 H0 E) (stAt (defBody s_Law) 9) (L6 r N as) (L6 r N as) := by
  have C := Nt.keep_closed ok an.lt
  have hf := ans_few ok an
  refine y_alike (dNA (Nt.left N (Nt.keep N as)) (as.map ((Nt.keep N as).idxOf ·))) Hs.alike hr (pl_NA (ok.left C.kept) (by rw [List.length_map]; omega)) (pd_call Hs.needed hr (pds_cons (pd_v 2) (pds_one (pd_v 3))) ⟨N, as, ok, an, rfl, rfl⟩) ?_
  unfold dNA
  rw [mapT_map]
  exact pd_tup (pds_cons (pd_call Hs.left hr (pds_cons (pd_v 2) (pds_one (pd_v 12))) ⟨N, Nt.keep N as, ok, C.kept, rfl, rfl⟩) (pds_one (pd_tuple M.tuple (pd_lcA 6 sc_Law.nd (pid_tup (pd_v 3)) rfl (fun o ho s H C cl fp => pd_indexN (pd_v 12) (pd_v 6) (Nt.ans_keep an.lt o ho))))))
noncomputable abbrev L10 (r : Addr) (N : Nt.Net) (as : List Nat) (M : Nt.Net) : Dc.Env := LE r N as [.no, SG N as, SQ (Nt.needless N as), SNs (Nt.gone N as), .no, .no, SNs (Nt.keep N as), .dat (dNet M), SQ (Nt.needless M as), .no, .no, .no, .no, .no, .no, .no, .no, .no, .no]
theorem y10 : SN1 (XLaw P w K mg base f cdv A outer s0 H0 E) (stAt (defBody s_Law) 10) (L6 r N as) (L10 r N as N) :=
  SN1.is (sn_par2 13 14 rfl sc_Law.nd (pds_cons (pd_v 2) (pds_one (pd_v 8)))) rfl
/-- the search in a thinner net T -/
theorem y11i (M : Mg mg) (Hs : LH P w K mg base) (hr : Room 7 (XLaw P w K mg base f cdv A outer s0 H0 E).A) (ok : Nt.Ok N) (an : Nt.Ans N as) {T : Nt.Net} (L : Nt.Like N T as) (t : Nat) {sq : Sl} : SN1 (XLaw P w K mg base f cdv A outer s0 H0 E) (match forAt (stAt (defBody s_Law) 11) 0 with | .If _ b _ _ => stAt b 2 | x => x)
    (LE r N as [.no, SG N as, SQ (Nt.needless N as), SNs (Nt.gone N as), .no, .no, SNs (Nt.keep N as), .dat (dNet T), SQ [], .dat (dN t), .no, .no, .no, .no, .no, .no, .no, .no, .no]) (LE r N as [.no, SG N as, SQ (Nt.needless N as), SNs (Nt.gone N as), .no, .no, SNs (Nt.keep N as), .dat (dNet T), SQ (Nt.needless T as), .dat (dN t), .no, .no, .no, .no, .no, .no, .no, .no, .no]) := by
  have h9 := L.ok.size
  have h6 := L.ok.few
  have hz := L.size
  have hf := ans_few ok an
  have hgl : ∀ a ∈ Nt.gates T, (Nt.nlAt T as a).length ≤ 9 := fun a ha => nl_len L.ok as (Nt.mem_gates.mp ha).2
  have N_ := sc_Law.nd
  have lt : ∀ p ∈ as, p < Nt.size T := fun p hp => by rw [hz]; exact an.lt p hp
  refine SN1.is (sn_for (Nt.gates T) dN (fun i => LE r N as [.no, SG N as, SQ (Nt.needless N as), SNs (Nt.gone N as), .no, .no, SNs (Nt.keep N as), .dat (dNet T), SQ (((Nt.gates T).take i).flatMap (Nt.nlAt T as)), .dat (dN t), .no, .no, .no, .no, .no, .no, .no, .no, .no])
    (fun i => LE r N as [.dat (dN ((Nt.gates T).getD i 0)), SG N as, SQ (Nt.needless N as), SNs (Nt.gone N as), .no, .no, SNs (Nt.keep N as), .dat (dNet T), SQ (((Nt.gates T).take i).flatMap (Nt.nlAt T as)), .dat (dN t), .no, .no, .no, .no, .no, .no, .no, .no, .no]) PassesOwn.never rfl
    (pid_range2 (lo := T.1) (n := T.2.length) M.range (PD.to (pd_ixTN (pd_v 2) (pd_n 0) rfl) (by rw [L.ins] <;> rfl)) (pd_v 4) (by rw [← hz] <;> rfl) (by unfold Nt.size at h9; omega)) (gates_dat T) rfl (fun i a ha => ?_) (fun i a ha => ?_)) (by rw [List.take_length, ← Nt.needless_gates] <;> rfl)
  · have e4 : (Nt.gates T).getD i 0 = a := by rw [List.getD_eq_getElem?_getD, ha] <;> rfl
    rw [e4]
    exact pgd_name 6 N_
  · have e4 : (Nt.gates T).getD i 0 = a := by rw [List.getD_eq_getElem?_getD, ha] <;> rfl
    rw [e4, take_flat ha]
    obtain ⟨g1, g2⟩ := Nt.mem_gates.mp (List.mem_of_getElem? ha)
    have hfl := L.ok.frlen a
    have hb : (((Nt.gates T).take i).flatMap (Nt.nlAt T as)).length ≤ 54 := by
      have := flat_len (l := (Nt.gates T).take i) (f := Nt.nlAt T as) (c := 9) fun x hx => hgl x (List.mem_of_mem_take hx)
      rw [List.length_take, gates_len] at this
      have h7 : min i T.2.length * 9 ≤ 6 * 9 := Nat.mul_le_mul_right _ (by omega)
      omega
    generalize ((Nt.gates T).take i).flatMap (Nt.nlAt T as) = bs at hb
    refine SN.is (sn_forget 6 (sn_forget 10 (sn_forget 11 (sn_one (SN1.is (sn_for (Nt.fr T a) dN (fun j => LE r N as [.dat (dN a), SG N as, SQ (Nt.needless N as), SNs (Nt.gone N as), .no, .no, SNs (Nt.keep N as), .dat (dNet T), .dat (.list (bs.map dQ ++ (((Nt.fr T a).take j).filter fun o => Nt.tabs (Nt.cut T a o) as == Nt.tabs T as).map fun o => dQ (a, o))), .dat (dN t), .no, .no, .no, .no, .no, .no, .no, .no, .no])
      (fun j => LE r N as [.dat (dN a), SG N as, SQ (Nt.needless N as), SNs (Nt.gone N as), .dat (dN ((Nt.fr T a).getD j 0)), .no, SNs (Nt.keep N as), .dat (dNet T), .dat (.list (bs.map dQ ++ (((Nt.fr T a).take j).filter fun o => Nt.tabs (Nt.cut T a o) as == Nt.tabs T as).map fun o => dQ (a, o))), .dat (dN t), .no, .no, .no, .no, .no, .no, .no, .no, .no]) PassesOwn.never rfl
      (pid_tup (pd_ixTN (pd_ixTN (pd_v 13) (pd_n 1) rfl) (pd_subN (pd_v 6) (PD.to (d' := dN T.1) (pd_ixTN (pd_v 2) (pd_n 0) rfl) (by rw [L.ins])) g1) (fr_dat g1 g2))) rfl (by simp) (fun j o ho => ?_) (fun j o ho => ?_)) rfl))))) ?_
    · have e5 : (Nt.fr T a).getD j 0 = o := by rw [List.getD_eq_getElem?_getD, ho] <;> rfl
      rw [e5]
      exact pgd_name 10 N_
    · have e5 : (Nt.fr T a).getD j 0 = o := by rw [List.getD_eq_getElem?_getD, ho] <;> rfl
      rw [e5, take_filter ho]
      have hjl : ((((Nt.fr T a).take j).filter fun o => Nt.tabs (Nt.cut T a o) as == Nt.tabs T as).map fun o => dQ (a, o)).length ≤ 9 := by
        rw [List.length_map]
        have h1 := List.length_filter_le (fun o => Nt.tabs (Nt.cut T a o) as == Nt.tabs T as) ((Nt.fr T a).take j)
        rw [List.length_take] at h1
        omega
      generalize (((Nt.fr T a).take j).filter fun o => Nt.tabs (Nt.cut T a o) as == Nt.tabs T as).map (fun o => dQ (a, o)) = cs at hjl
      refine SN.is (sn_forget 10 (sn_forget 11 (sn_cons (sn_set 11 N_ (pd_call Hs.paper.plain hr (pds_one (pd_call Hs.cut hr (pds_cons (pd_v 13) (pds_cons (pd_v 6) (pds_one (pd_v 10)))) ⟨T, a, o, g1, g2, L.ok, rfl, rfl⟩)) ⟨Nt.cut T a o, L.ok.cut g1, rfl, rfl⟩)) (sn_one (sn_set 14 N_ (pd_catL (pd_v 14) (pd_rep (k := (Nt.tabs (Nt.cut T a o) as == Nt.tabs T as).toNat) (pd_lst (pds_one (d := dQ (a, o)) (pd_tup (pds_cons (pd_v 6) (pds_one (pd_v 10)))))) (pd_intBN M.int (PD.to (pd_eq hr.units (PD.to (d' := .list ((Nt.tabs (Nt.cut T a o) as).map dT)) (pd_lcA (g := fun p => dT ((Nt.paper (Nt.cut T a o)).getD p [])) 23 N_ (pid_tup (pd_v 3)) rfl ?_) ?_) (pd_v 7) (sh_tabs _).shaped (sh_tabs _).shaped) (by rw [eqv_tabsL, L.tabs]))) rfl ?_ ?_) ?_)))))) ?_
      · intro p hp s H C cl fp
        exact pd_ixTN (pd_v 11) (pd_v 23) (getD_mapT (by rw [Nt.paper_len, Nt.size_cut]; exact lt p hp))
      · unfold Nt.tabs
        rw [List.map_map] <;> rfl
      · cases Nt.tabs (Nt.cut T a o) as == Nt.tabs T as <;> decide
      · exact Nat.le_of_ble_eq_true rfl
      · rw [rep_if, List.length_append, List.length_map]
        have : (if (Nt.tabs (Nt.cut T a o) as == Nt.tabs T as) = true then [dQ (a, o)] else []).length ≤ 1 := by split <;> first | exact Nat.le_refl _ | exact Nat.zero_le _
        omega
      · rw [rep_if, List.append_assoc] <;> rfl
    · rw [List.take_length]
      show _ = LE r N as [_, _, _, _, _, _, _, _, .dat (.list ((bs ++ Nt.nlAt T as a).map dQ)), _, _, _, _, _, _, _, _, _, _]
      rw [List.map_append]
      unfold Nt.nlAt
      rw [List.map_map] <;> rfl
end
end Wk
end

section
set_option maxHeartbeats 4000000
namespace Wk
open PySem PySem.Spec PyProof.Rows L2 Dc Tx
section
variable {P : Program} {w : World} {K : PySem.W.Frag} {mg : Str → Option Value} {base : Heap} {f : Addr} {cdv : Value} {A : Around} {outer : List PySem.Env} {s0 : Shared} {H0 : Hp} {E : XK} {r : Addr} {N : Nt.Net} {as : List Nat}
theorem y11 (M : Mg mg) (Hs : LH P w K mg base) (hr : Room 7 (XLaw P w K mg base f cdv A outer s0 H0 E).A) (ok : Nt.Ok N) (an : Nt.Ans N as) : SN1 (XLaw P w K mg base f cdv A outer s0 H0 E) (stAt (defBody s_Law) 11) (L10 r N as N) (L10 r N as (Nt.thin N as)) := by
  have N_ := sc_Law.nd
  refine SN1.is (sn_for (List.range 40) dN (fun i => L10 r N as (Nt.thinG as i N)) (fun i => LE r N as [.no, SG N as, SQ (Nt.needless N as), SNs (Nt.gone N as), .no, .no, SNs (Nt.keep N as), .dat (dNet (Nt.thinG as i N)), SQ (Nt.needless (Nt.thinG as i N) as), .dat (dN i), .no, .no, .no, .no, .no, .no, .no, .no, .no]) PassesOwn.never rfl (pid_range1 (n := 40) M.range (pd_n 40) (by omega)) rfl rfl (fun i a ha => ?_) (fun i a ha => ?_)) (by
    rw [List.length_range]
    unfold Nt.thin
    exact rfl)
  · obtain ⟨hi, rfl⟩ := range_at ha
    exact pgd_name 15 N_
  · obtain ⟨hi, rfl⟩ := range_at ha
    have L0 := Nt.like_thin ok as a
    have L1 := Nt.like_thin ok as (a + 1)
    have es : Nt.thinG as (a + 1) N = Nt.step (Nt.thinG as a N) as := rfl
    rw [es]
    rw [es] at L1
    generalize Nt.thinG as a N = T at *
    refine SN.is (sn_forget 15 (sn_one (sn_if (ρ1 := LE r N as [.no, SG N as, SQ (Nt.needless N as), SNs (Nt.gone N as), .no, .no, SNs (Nt.keep N as), .dat (dNet (Nt.step T as)), SQ (Nt.needless (Nt.step T as) as), .dat (dN a), .no, .no, .no, .no, .no, .no, .no, .no, .no]) (k := !(Nt.needless T as).isEmpty) (PTD.to (ptd_ne hr.units (pd_v 14) (pd_lst pds_nil) (Sh.shaped (n := 2) (sh_lst (sh_map fun q => sh_Q q))) rfl) (by rw [eqv_nil, List.isEmpty_map])) (fun h => ?_) (fun h => ?_)))) rfl
    · have hst : ∃ q r, Nt.needless T as = q :: r := by
        cases h' : Nt.needless T as with
        | nil =>
          rw [h'] at h
          cases h
        | cons q r => exact ⟨q, r, rfl⟩
      obtain ⟨q, rs, hq⟩ := hst
      obtain ⟨q1, q2, q3, q4⟩ := Nt.mem_needless.mp (show q ∈ Nt.needless T as by rw [hq]; exact List.mem_cons_self)
      have e2 : Nt.step T as = Nt.cut T q.1 q.2 := by
        unfold Nt.step
        rw [hq]
      rw [e2, hq]
      rw [e2] at L1
      refine sn_cons (sn_set 13 N_ (pd_call Hs.cut hr (pds_cons (pd_v 13) (pds_cons (pd_ixTN (pd_ixLN (pd_v 14) (pd_n 0) (show ((q :: rs).map dQ)[0]? = some (dQ q) from rfl)) (pd_n 0) (show [dN q.1, dN q.2][0]? = some (dN q.1) from rfl)) (pds_one (pd_ixTN (pd_ixLN (pd_v 14) (pd_n 0) (show ((q :: rs).map dQ)[0]? = some (dQ q) from rfl)) (pd_n 1) (show [dN q.1, dN q.2][1]? = some (dN q.2) from rfl))))) ⟨T, q.1, q.2, q1, q2, L0.ok, rfl, rfl⟩)) ?_
      refine sn_cons (SN1.is (sn_set 14 N_ (pd_lst pds_nil)) (ρ2 := LE r N as [.no, SG N as, SQ (Nt.needless N as), SNs (Nt.gone N as), .no, .no, SNs (Nt.keep N as), .dat (dNet (Nt.cut T q.1 q.2)), SQ [], .dat (dN a), .no, .no, .no, .no, .no, .no, .no, .no, .no]) rfl) ?_
      exact sn_one (y11i (sq := .no) M Hs hr ok an L1 a)
    · have hq : Nt.needless T as = [] := by
        cases h' : Nt.needless T as with
        | nil => rfl
        | cons q r =>
          rw [h'] at h
          cases h
      have e2 : Nt.step T as = T := by
        unfold Nt.step
        rw [hq]
      rw [e2]
      exact sn_nil
/-- kept of the thin net T -/
noncomputable abbrev L12 (r : Addr) (N : Nt.Net) (as : List Nat) (T : Nt.Net) (k fs : Sl) : Dc.Env := LE r N as [.no, SG N as, SQ (Nt.needless N as), SNs (Nt.gone N as), .no, .no, SNs (Nt.keep N as), .dat (dNet T), SQ (Nt.needless T as), .no, k, fs, .no, .no, .no, .no, .no, .no, .no]
theorem y12 (Hs : LH P w K mg base) (hr : Room 7 (XLaw P w K mg base f cdv A outer s0 H0 E).A) (an : Nt.Ans N as) {T : Nt.Net} (L : Nt.Like N T as) : SN1 (XLaw P w K mg base f cdv A outer s0 H0 E) (stAt (defBody s_Law) 12) (L10 r N as T) (L12 r N as T (SNs (Nt.keep T as)) .no) :=
  SN1.is (sn_set 16 sc_Law.nd (pd_call Hs.upper hr (pds_cons (pd_v 13) (pds_one (pd_v 3))) ⟨T, as, L.ok, fun a ha => by rw [L.size]; exact an.lt a ha, by have := Nt.asc_len an.asc an.lt; have := L.ok.size; have := L.size; omega, rfl, rfl⟩)) rfl
theorem y13 (M : Mg mg) (Hs : LH P w K mg base) (hr : Room 7 (XLaw P w K mg base f cdv A outer s0 H0 E).A) (ok : Nt.Ok N) (an : Nt.Ans N as) : SN1 (XLaw P w K mg base f cdv A outer s0 H0 E) (stAt (defBody s_Law) 13) (L12 r N as (Nt.thin N as) (SNs (Nt.keep (Nt.thin N as) as)) .no) (L12 r N as (Nt.thin N as) (SNs (Nt.keep (Nt.thin N as) as)) .no) := by
  have F := Nt.thin_facts ok an
  have L : Nt.Like N (Nt.thin N as) as := Nt.like_thin ok as 40
  have hf := ans_few ok an
  refine y_alike (dNA (Nt.thinNet N as) (Nt.thinAns N as)) Hs.alike hr (pl_NA F.ok (by unfold Nt.thinAns; rw [List.length_map]; omega)) (pd_call Hs.thinned hr (pds_cons (pd_v 2) (pds_one (pd_v 3))) ⟨N, as, ok, an, rfl, rfl⟩) ?_
  unfold dNA Nt.thinNet Nt.thinAns
  generalize Nt.thin N as = T at *
  have lt : ∀ a ∈ as, a < Nt.size T := fun a ha => by rw [L.size]; exact an.lt a ha
  have C := Nt.keep_closed L.ok lt
  rw [mapT_map]
  exact pd_tup (pds_cons (pd_call Hs.left hr (pds_cons (pd_v 13) (pds_one (pd_v 16))) ⟨T, Nt.keep T as, L.ok, C.kept, rfl, rfl⟩) (pds_one (pd_tuple M.tuple (pd_lcA 6 sc_Law.nd (pid_tup (pd_v 3)) rfl (fun o ho s H C cl fp => pd_indexN (pd_v 16) (pd_v 6) (Nt.ans_keep lt o ho))))))
theorem y14 {T : Nt.Net} {k : Sl} (hr : Room 7 (XLaw P w K mg base f cdv A outer s0 H0 E).A) (ok : Nt.Ok N) : SN1 (XLaw P w K mg base f cdv A outer s0 H0 E) (stAt (defBody s_Law) 14) (L12 r N as T k .no) (L12 r N as T k (SNs (Nt.firsts N))) := by
  have h9 := ok.size
  have hu := hr.un
  refine SN1.is (sn_set 17 sc_Law.nd (d := .list ((Nt.firsts N).map dN)) (PD.to (pd_lcA (l := Nt.paper N) 24 sc_Law.nd (pid_tup (pd_vf 5)) rfl (fun o ho s H C cl fp => pd_tupIndex 5 (by show A.units + 3 + 65 < cLine; have : A.units + 3 + 16 * 7 + 200 < cLine := hu; omega) (pd_v 24) ho) (by rw [Nt.paper_len]; omega)) ?_)) rfl
  unfold Nt.firsts
  rw [List.map_map] <;> rfl
theorem y15 (M : Mg mg) {T : Nt.Net} {k : Sl} (ok : Nt.Ok N) : SN1 (XLaw P w K mg base f cdv A outer s0 H0 E) (stAt (defBody s_Law) 15) (L12 r N as T k (SNs (Nt.firsts N))) (L12 r N as T (SNs (Nt.jkeep N)) (SNs (Nt.firsts N))) := by
  obtain ⟨b1, b2⟩ := jkeep_bounds ok
  refine SN1.is (sn_set 16 sc_Law.nd (d := .list ((Nt.jkeep N).map dN)) (pd_sortSetN (ns := List.range N.1 ++ Nt.firsts N) (Nt.size N) rfl M.sorted M.set (pd_catL (pd_listRange rfl M.range M.list (pd_ixTN (pd_v 2) (pd_n 0) rfl) (by have := ok.hi; omega)) (pd_v 17) ?_) ?_ b1 b2)) rfl
  · rw [List.length_append] at b1
    rw [List.length_map, List.length_map]
    omega
  · rw [List.map_append]
    exact isLst
noncomputable abbrev L16 (r : Addr) (N : Nt.Net) (as : List Nat) (T : Nt.Net) (due to its th mi : Sl) : Dc.Env := LE r N as [.no, SG N as, SQ (Nt.needless N as), SNs (Nt.gone N as), .no, .no, SNs (Nt.keep N as), .dat (dNet T), SQ (Nt.needless T as), .no, SNs (Nt.jkeep N), SNs (Nt.firsts N), due, to, its, th, mi, .no, .no]
theorem y16 {T : Nt.Net} : SN1 (XLaw P w K mg base f cdv A outer s0 H0 E) (stAt (defBody s_Law) 16) (L12 r N as T (SNs (Nt.jkeep N)) (SNs (Nt.firsts N))) (L16 r N as T (.lst []) .no .no .no .no) := sn_setNil 18 sc_Law.nd
abbrev dues (N : Nt.Net) : List PyData := ((Nt.jkeep N).drop N.1).map fun w => dT (Nt.jnear N (Nt.fr N w))
theorem y17 (M : Mg mg) {T : Nt.Net} (ok : Nt.Ok N) : SN1 (XLaw P w K mg base f cdv A outer s0 H0 E) (stAt (defBody s_Law) 17) (L16 r N as T (.lst []) .no .no .no .no) (L16 r N as T (.lst (dues N)) .no .no .no .no) := by
  have h9 := ok.size
  have hjl := Nt.jkeep_len N
  have N_ := sc_Law.nd
  have low : ∀ i, i < N.1 → i ∈ Nt.jkeep N := fun i hi => Nt.mem_sd.mpr ⟨by unfold Nt.size; omega, List.mem_append.mpr (.inl (List.mem_range.mpr hi))⟩
  refine SN1.is (sn_for ((Nt.jkeep N).drop N.1) dN (fun i => L16 r N as T (.lst ((((Nt.jkeep N).drop N.1).take i).map fun w => dT (Nt.jnear N (Nt.fr N w)))) .no .no .no .no) (fun i => LE r N as [.dat (dN (((Nt.jkeep N).drop N.1).getD i 0)), SG N as, SQ (Nt.needless N as), SNs (Nt.gone N as), .no, .no, SNs (Nt.keep N as), .dat (dNet T), SQ (Nt.needless T as), .no, SNs (Nt.jkeep N), SNs (Nt.firsts N), .lst ((((Nt.jkeep N).drop N.1).take i).map fun w => dT (Nt.jnear N (Nt.fr N w))), .no, .no, .no, .no, .no, .no]) PassesOwn.never rfl
      (pid_list (pd_slL (pd_v 16) (pod_some (pd_ixTN (pd_v 2) (pd_n 0) rfl)) pod_none)) (by rw [cut_from, List.map_drop]) rfl (fun i a ha => ?_) (fun i a ha => ?_)) (by rw [List.take_length] <;> rfl)
  · have e4 : ((Nt.jkeep N).drop N.1).getD i 0 = a := by rw [List.getD_eq_getElem?_getD, ha] <;> rfl
    rw [e4]
    exact pgd_name 6 N_
  · have e4 : ((Nt.jkeep N).drop N.1).getD i 0 = a := by rw [List.getD_eq_getElem?_getD, ha] <;> rfl
    have had := (Nt.mem_drop_low (Nt.sd_asc _ _) low).mp (List.mem_of_getElem? ha)
    have has : a < Nt.size N := (Nt.mem_sd.mp had.1).1
    have hfl := ok.frlen a
    rw [e4]
    refine SN.is (sn_forget 6 (sn_one (sn_append 18 (d := dT (Nt.jnear N (Nt.fr N a))) (pd_tuple M.tuple (pd_sortSetN (ns := (Nt.fr N a).map fun o => (Nt.jkeep N).idxOf ((Nt.firsts N).getD o 0)) (Nt.size N) rfl M.sorted M.set (pd_lcA 23 N_ (pid_tup (pd_ixTN (pd_ixTN (pd_v 2) (pd_n 1) rfl) (pd_subN (pd_v 6) (pd_ixTN (pd_v 2) (pd_n 0) rfl) had.2) (fr_dat had.2 has))) rfl (fun o ho s H C cl fp => pd_indexN (pd_v 16) (pd_ixLN (pd_v 17) (pd_v 23) (firsts_at (Nt.fr_lt ok ho))) (Nt.firsts_keep (Nt.firsts_get (Nt.fr_lt ok ho))))) ?_ ?_ ?_)) ?_))) ?_
    · rw [List.map_map]
      exact isLst
    · rw [List.length_map]; omega
    · intro x hx
      obtain ⟨o, ho, rfl⟩ := List.mem_map.mp hx
      exact Nt.jidx_lt (Nt.fr_lt ok ho)
    · rw [List.length_map, List.length_take]
      have := List.length_drop (i := N.1) (l := Nt.jkeep N)
      omega
    · show _ = LE r N as [_, _, _, _, _, _, _, _, _, _, _, _, .lst ((((Nt.jkeep N).drop N.1).take (i + 1)).map _), _, _, _, _, _, _]
      rw [List.take_add_one, ha, List.map_append] <;> rfl
theorem y18 (Hs : LH P w K mg base) {T : Nt.Net} {due : Sl} (hr : Room 7 (XLaw P w K mg base f cdv A outer s0 H0 E).A) (ok : Nt.Ok N) (an : Nt.Ans N as) : SN1 (XLaw P w K mg base f cdv A outer s0 H0 E) (stAt (defBody s_Law) 18) (L16 r N as T due .no .no .no .no) (L16 r N as T due (.dat (dNet (Nt.joinNet N))) (.dat (dT (Nt.jnear N as))) .no .no) :=
  SN1.is (sn_asg (d := dNA (Nt.joinNet N) (Nt.jnear N as)) (pd_call Hs.joined hr (pds_cons (pd_v 2) (pds_one (pd_v 3))) ⟨N, as, ok, an, rfl, rfl⟩) (pgd_two 19 20 rfl sc_Law.nd)) rfl
theorem jnear_len (N : Nt.Net) (ok : Nt.Ok N) (l : List Nat) : (Nt.jnear N l).length ≤ 9 := Nat.le_trans (Nt.asc_len (Nt.sd_asc _ _) fun x hx => (Nt.mem_sd.mp hx).1) ok.size
theorem y19 (M : Mg mg) (Hs : LH P w K mg base) {T : Nt.Net} {its : Sl} (hr : Room 7 (XLaw P w K mg base f cdv A outer s0 H0 E).A) (ok : Nt.Ok N) : SN1 (XLaw P w K mg base f cdv A outer s0 H0 E) (stAt (defBody s_Law) 19) (L16 r N as T (.lst (dues N)) (.dat (dNet (Nt.joinNet N))) its .no .no) (L16 r N as T (.lst (dues N)) (.dat (dNet (Nt.joinNet N))) its .no .no) := by
  have hjl := Nt.jkeep_len N
  have h9 := ok.size
  rw [join_dat]
  refine y_alike _ Hs.alike hr (Pl.up (n := 3) (.tup (fun d hd => ?_) (Nat.le_of_ble_eq_true rfl)) (by decide)) (pd_v 19) (pd_tup (pds_cons (pd_ixTN (pd_v 2) (pd_n 0) rfl) (pds_one (pd_tupleOwn 18 M.tuple))))
  rcases List.mem_cons.mp hd with e | hd
  · rw [e]; exact .int _
  · rw [List.mem_singleton.mp hd]
    refine .tup (fun d hd => ?_) (by rw [List.length_map, List.length_drop]; omega)
    obtain ⟨x, _, rfl⟩ := List.mem_map.mp hd
    exact pl_T _ (by have := jnear_len N ok (Nt.fr N x); omega)
theorem y20 (M : Mg mg) (Hs : LH P w K mg base) {T : Nt.Net} {due to : Sl} (hr : Room 7 (XLaw P w K mg base f cdv A outer s0 H0 E).A) (ok : Nt.Ok N) (an : Nt.Ans N as) : SN1 (XLaw P w K mg base f cdv A outer s0 H0 E) (stAt (defBody s_Law) 20) (L16 r N as T due to (.dat (dT (Nt.jnear N as))) .no .no) (L16 r N as T due to (.dat (dT (Nt.jnear N as))) .no .no) := by
  have hf := ans_few ok an
  refine y_alike (dT (Nt.jnear N as)) Hs.alike hr ((pl_T _ (by have := jnear_len N ok as; omega)).up (by decide)) (pd_v 20) (pd_tuple M.tuple (pd_sortSetN (ns := as.map fun o => (Nt.jkeep N).idxOf ((Nt.firsts N).getD o 0)) (Nt.size N) rfl M.sorted M.set (pd_lcA 6 sc_Law.nd (pid_tup (pd_v 3)) rfl (fun o ho s H C cl fp => pd_indexN (pd_v 16) (pd_ixLN (pd_v 17) (pd_v 6) (firsts_at (an.lt o ho))) (Nt.firsts_keep (Nt.firsts_get (an.lt o ho))))) ?_ ?_ ?_))
  · rw [List.map_map]
    exact isLst
  · rw [List.length_map]; omega
  · intro x hx
    obtain ⟨o, ho, rfl⟩ := List.mem_map.mp hx
    exact Nt.jidx_lt (an.lt o ho)
theorem y21 (Hs : LH P w K mg base) {T : Nt.Net} {due to its : Sl} (hr : Room 7 (XLaw P w K mg base f cdv A outer s0 H0 E).A) (ok : Nt.Ok N) (an : Nt.Ans N as) : SN1 (XLaw P w K mg base f cdv A outer s0 H0 E) (stAt (defBody s_Law) 21) (L16 r N as T due to its .no .no) (L16 r N as T due to its (.dat (dNet (Nt.thinNet N as))) (.dat (dT (Nt.thinAns N as)))) :=
  SN1.is (sn_asg (d := dNA (Nt.thinNet N as) (Nt.thinAns N as)) (pd_call Hs.thinned hr (pds_cons (pd_v 2) (pds_one (pd_v 3))) ⟨N, as, ok, an, rfl, rfl⟩) (pgd_two 21 22 rfl sc_Law.nd)) rfl
end
end Wk
end

section
set_option maxHeartbeats 4000000
namespace Wk
open PySem PySem.Spec PyProof.Rows L2 Dc Tx
/-- the state behind the draws -/
def tY (K : PySem.W.Frag) (r a : Addr) (ns : List Int) (T : List (Addr × Str)) (ρ : Dc.Env) : TS := fun D σ H => ∃ B0 H0 B, Grow B0 H0 B H ∧ Sok H0 B H σ ρ ∧ B0 r = none ∧ Rw K r a ns H0 ∧ LamX.Tabs T H0 ∧ ∀ H', D.rt (.bl true) H'
section
variable {X : Cx} {ρ ρ1 : Dc.Env} {s : Stmt} {l : List Stmt} {K : PySem.W.Frag} {r a : Addr} {ns : List Int} {T : List (Addr × Str)}
theorem y_cons (h1 : SN1 X s ρ ρ1) (h2 : PSs X l (tY K r a ns T ρ1)) : PSs X (s :: l) (tY K r a ns T ρ) :=
  pss_mono (pss_cons h1 h2) fun D σ H ⟨B0, H0, B, g, so, z⟩ => ⟨B0, H0, B, g, so, fun σ' B' H' g' _ so' => ⟨B0, H0, B', g', so', z⟩⟩
end
section
variable {P : Program} {w : World} {K : PySem.W.Frag} {mg : Str → Option Value} {base : Heap} {f : Addr} {cdv : Value} {A : Around} {outer : List PySem.Env} {s0 : Shared} {H0 : Hp} {E : XK} {r a Pt : Addr} {ns : List Int} {N : Nt.Net} {as : List Nat}
theorem thin_true {T : Nt.Net} {bs : List Nat} (F : Nt.ThinFacts N as T bs) : ((Nt.needless T bs).isEmpty && (Nt.gates T).all fun p => decide (p ∈ Nt.up T bs)) = true := by
  rw [F.none, F.all] <;> rfl
theorem y22 (Hs : LH P w K mg base) (HR : Has P w K mg base "_law_rest" 7 ["_law_row", "_law_net_here"] (spRest K Pt qq)) {T : Nt.Net} {due to its : Sl} (hr : Room 7 (XLaw P w K mg base f cdv A outer s0 H0 E).A) (ok : Nt.Ok N) (an : Nt.Ans N as) : PSs (XLaw P w K mg base f cdv A outer s0 H0 E) [stAt (defBody s_Law) 22] (tY K r a ns [(Pt, qq)] (L16 r N as T due to its (.dat (dNet (Nt.thinNet N as))) (.dat (dT (Nt.thinAns N as))))) := by
  have F := Nt.thin_facts ok an
  obtain ⟨fr', fdr, a1, a2, a3, a4⟩ := HR.ok
  refine pss_one (ps_mono (ps_ret (pe_and (pd_call (d := .bool true) Hs.same hr (pds_cons (pd_v 2) (pds_cons (pd_v 3) (pds_cons (pd_v 21) (pds_one (pd_v 22))))) ⟨N, as, Nt.thinNet N as, Nt.thinAns N as, ok, an, F.ok, F.ans, F.ins.symm, F.same.symm, rfl, rfl⟩) (pe_and (pd_call (d := .bool true) Hs.thin hr (pds_cons (pd_v 21) (pds_one (pd_v 22))) ⟨Nt.thinNet N as, Nt.thinAns N as, F.ok, F.ans, rfl, by rw [thin_true F]⟩) (pe_one (pe_call (E := fun _ _ _ => False) a1 hr rfl a2 a3 a4 .nil pass0 (pa_cons (pe_var (i := 1) rfl (by first | exact Or.inl rfl | exact Or.inr (Or.inl rfl))) (pds_one (d := dNet N) (pd_v (ρ := L16 r N as T due to its (.dat (dNet (Nt.thinNet N as))) (.dat (dT (Nt.thinAns N as)))) 2))))))))
    fun D σ H ⟨B0, HH, B, g, so, hB, w0, tb, q⟩ => ⟨HH, B, g.sub, so, fun v B1 H1 g1 hv => ⟨true, hv.bl_inv, HH, B1, g1.sub, so.grow g1, fun v2 B2 H2 g2 hv2 => ⟨true, hv2.bl_inv, ?_⟩⟩⟩)
  have g12 := g1.trans g2
  have so2 := so.grow g12
  refine ⟨.ref r, so2.slot 1 _ rfl, HH, B2, g2.sub, so2, fun vs B3 H3 g3 h3 => ?_⟩
  obtain ⟨u, rfl, hu⟩ := h3.one
  have g03 := (g.trans g12).trans g3
  show spRest K Pt qq ((V.ref r :: [u]) ++ []) H3 _ _
  rw [List.append_nil]
  exact ⟨r, a, ns, B3, N, u, rfl, g3.sub, g03.sep r w0.ne hB, w0.ext g03.ext, hu, ok, tb.ext g03.ext, fun H' => q H'⟩
/-- all behind the third statement -/
theorem y_all (M : Mg mg) (Hs : LH P w K mg base) (HR : Has P w K mg base "_law_rest" 7 ["_law_row", "_law_net_here"] (spRest K Pt qq)) (hr : Room 7 (XLaw P w K mg base f cdv A outer s0 H0 E).A) (ok : Nt.Ok N) (an : Nt.Ans N as) : PSs (XLaw P w K mg base f cdv A outer s0 H0 E) ((defBody s_Law).drop 3) (tY K r a ns [(Pt, qq)] (LE r N as [.no, .no, .no, .no, .no, .no, .no, .no, .no, .no, .no, .no, .no, .no, .no, .no, .no, .no, .no])) := by
  have L : Nt.Like N (Nt.thin N as) as := Nt.like_thin ok as 40
  exact y_cons (y3 an.lt (ans_few ok an)) (y_cons (y4 M Hs hr ok an) (y_cons (y5 Hs hr ok an) (y_cons (y6 M Hs hr ok an) (y_cons (y7 M Hs hr ok an) (y_cons (y8 M Hs hr ok an) (y_cons (y9 M Hs hr ok an) (y_cons y10 (y_cons (y11 M Hs hr ok an) (y_cons (y12 Hs hr an L) (y_cons (y13 M Hs hr ok an) (y_cons (y14 hr ok) (y_cons (y15 M ok) (y_cons y16 (y_cons (y17 M ok) (y_cons (y18 Hs hr ok an) (y_cons (y19 M Hs hr ok) (y_cons (y20 M Hs hr ok an) (y_cons (y21 Hs hr ok an) (y22 Hs HR hr ok an)))))))))))))))))))
end
end Wk
end

section
set_option maxHeartbeats 4000000
namespace Wk
open PySem PySem.Spec PyProof.Rows L2 Dc Tx
theorem _root_.Dc.Sok.setF {HH B H : Hp} {σ : L2.St} {ρ : Dc.Env} (so : Sok HH B H σ ρ) {j : Nat} {v : V} {d : PyData} (h2 : Dd B v d) (hF : Frz B v) (hj : j < ρ.length) : Sok HH B H (σ.set j (some v)) (ρ.set j (.fdat d)) := by
  have so2 := so.setDat h2 hj
  refine ⟨by have := so2.len; rw [this, List.length_set, List.length_set], fun i s hs => ?_, fun i k s t l hne hs ht os ot h1 => ?_⟩
  · by_cases c : i = j
    · subst c
      rw [List.getElem?_set_self hj] at hs
      have es := Option.some.inj hs
      subst es
      exact ⟨v, List.getElem?_set_self (by rw [so.len]; exact hj), h2, hF⟩
    · rw [List.getElem?_set_ne (Ne.symm c)] at hs
      exact so2.slot i s (by rw [List.getElem?_set_ne (Ne.symm c)]; exact hs)
  · have back : ∀ (i : Nat) (t : Sl), (ρ.set j (.fdat d))[i]? = some t → t.own = true → (ρ.set j (.dat d))[i]? = some t := fun i t ht ot => by
      by_cases c : i = j
      · subst c
        rw [List.getElem?_set_self hj] at ht
        have es := Option.some.inj ht
        subst es
        cases ot
      · rw [List.getElem?_set_ne (Ne.symm c)] at ht ⊢
        exact ht
    exact so2.apart i k s t l hne (back i s hs os) (back k t ht ot) os ot h1
abbrev E0 (r : Addr) (net ans size lines : Sl) : Dc.Env := [.no, .raw (.ref r), net, ans, size, lines, .no, .no, .no, .no, .no, .no, .no, .no, .no, .no, .no, .no, .no, .no, .no, .no, .no, .no, .no]
theorem sok_E0 {HH B H : Hp} {r : Addr} {v : V} : Sok HH B H ((L2.start n_Law [v]).set 1 (some (.ref r))) (E0 r .no .no .no .no) := by
  have key : ∀ (i : Nat) (s : Sl), (E0 r .no .no .no .no)[i]? = some s → s = .no ∨ (i = 1 ∧ s = .raw (.ref r)) := fun i s hs => by
    match i with
    | 0 => exact .inl (Option.some.inj hs).symm
    | 1 => exact .inr ⟨rfl, (Option.some.inj hs).symm⟩
    | n + 2 =>
      have hs' : (List.replicate 23 Sl.no)[n]? = some s := hs
      exact .inl (List.mem_replicate.mp (List.mem_of_getElem? hs')).2
  refine ⟨rfl, fun i s hs => ?_, fun i j s t l _ hs _ os _ _ => ?_⟩
  · rcases key i s hs with z | ⟨z, z2⟩
    · rw [z]; trivial
    · subst z z2
      rfl
  · rcases key i s hs with z | ⟨z, z2⟩
    · rw [z] at os; cases os
    · rw [z2] at os; cases os
end Wk
end

section
set_option maxHeartbeats 60000
namespace Wk
open PySem PySem.Spec PyProof.Rows L2 Dc Tx
section
variable {P : Program} {w : World} {K : PySem.W.Frag} {mg : Str → Option Value} {base : Heap} {f : Addr} {fd : FuncData} {Pt : Addr}
def spLaw (K : PySem.W.Frag) (Pt : Addr) : Sp := fun vs H Q _ => ∃ (a : Addr) (ns : List Int), vs = [.ref a] ∧ SqL K H a (ns.map V.int) ∧ LamX.Tabs [(Pt, qq)] H ∧ ∀ H', Q (.bl true) H'
abbrev stX (P : Program) (w : World) (K : PySem.W.Frag) (mg : Str → Option Value) (base : Heap) (f : Addr) (cdv : Value) (A : Around) (outer : List PySem.Env) (s0 : Shared) (H0 : Hp) (E : XK) (i : Nat) (t : TS) : Prop := PS (XLaw P w K mg base f cdv A outer s0 H0 E) (stAt (defBody s_Law) i) t
section
variable {cdv : Value} {A : Around} {outer : List PySem.Env} {s0 : Shared} {H0 : Hp} {E : XK}
def t0 (a : Addr) : TS := fun D σ H => σ[0]? = some (some (.ref a)) ∧ ∀ r, H r = none → D.nx (σ.set 1 (some (.ref r))) (upd H r (.lst [.ref a, .int 0, .int 10312, .int 0]))
theorem q0 (a : Addr) : stX P w K mg base f cdv A outer s0 H0 E 0 (t0 a) :=
  ps_mono (ps_set sc_Law.nd (i := 1) rfl (Or.inl rfl) (pe_lst (pa_cons (pe_var (i := 0) rfl (Or.inl rfl)) (pa_cons pe_int (pa_cons pe_int (pa_cons pe_int pa_nil))))) rfl (.inl rfl)) fun D σ H ⟨h, q⟩ => ⟨.ref a, h, by show 4 ≤ sizeLine; decide, fun r hr => q r hr⟩
def t1 (K : PySem.W.Frag) (a : Addr) (ns : List Int) : TS := fun D σ H => ∃ r B, σ[1]? = some (some (.ref r)) ∧ Same B H ∧ B r = none ∧ Rw K r a ns H ∧ ∀ N v B' H', Nt.Ok N → DG K r a ns B H B' H' → Dd B' v (dNet N) → D.nx (σ.set 2 (some v)) H'
theorem q1 (H1 : Has P w K mg base "_law_net" 2 ["_law_row", "_law_most"] (spNet K)) (hr : Room 7 (XLaw P w K mg base f cdv A outer s0 H0 E).A) (a : Addr) (ns : List Int) : stX P w K mg base f cdv A outer s0 H0 E 1 (t1 K a ns) := by
  obtain ⟨fn, fdn, n1, n2, n3, n4⟩ := H1.ok
  refine ps_mono (ps_set sc_Law.nd (i := 2) rfl (Or.inl rfl) (pe_call (E := fun _ _ _ => False) n1 (hr.mono (by decide)) rfl n2 n3 n4 .nil pass0 (pa_cons (pe_var (i := 1) rfl (Or.inl rfl)) (pa_cons pe_int pa_nil))) rfl (.inl rfl)) fun D σ H ⟨r, B, h, eq, hB, w0, q⟩ => ⟨.ref r, h, r, a, ns, B, rfl, eq, hB, w0, fun N v B' H' ok g hv => q N v B' H' ok g hv⟩
def t2 (K : PySem.W.Frag) (a : Addr) (ns : List Int) : TS := fun D σ H => ∃ r N HH B, Same B H ∧ B r = none ∧ Rw K r a ns H ∧ Nt.Ok N ∧ Sok HH B H σ (E0 r (.dat (dNet N)) .no .no .no) ∧ ∀ as σ' B' H', Nt.Ans N as → DG K r a ns B H B' H' → Sok HH B' H' σ' (E0 r (.dat (dNet N)) (.dat (dT as)) (.dat (dN (Nt.size N))) (.fdat (.tuple ((Nt.paper N).map dT)))) → D.nx σ' H'
def tA (K : PySem.W.Frag) (a : Addr) (ns : List Int) (r : Addr) (N : Nt.Net) : TE := fun σ H Q => ∃ HH B, Same B H ∧ B r = none ∧ Rw K r a ns H ∧ Nt.Ok N ∧ Sok HH B H σ (E0 r (.dat (dNet N)) .no .no .no) ∧ ∀ as v B' H', Nt.Ans N as → DG K r a ns B H B' H' → Dd B' v (dT as) → Q v H'
def tP (r : Addr) (N : Nt.Net) : TE := fun σ H Q => ∃ HH B, Same B H ∧ Nt.Ok N ∧ Sok HH B H σ (E0 r (.dat (dNet N)) .no .no .no) ∧ ∀ v B' H', Grow B H B' H' → Dd B' v (.tuple ((Nt.paper N).map dT)) → Frz B' v → Q v H'
def exAt (i : Nat) : Expr := match stAt (defBody s_Law) 2 with
  | .Assign _ (.Tuple l _ _) _ => l.getD i (.Tuple [] 0 ⟨0, 0, 0, 0⟩)
  | _ => .Tuple [] 0 ⟨0, 0, 0, 0⟩
theorem qA (H2 : Has P w K mg base "_law_answers" 2 ["_law_row", "_law_net_here"] (spAns K)) (hr : Room 7 (XLaw P w K mg base f cdv A outer s0 H0 E).A) (a : Addr) (ns : List Int) (r : Addr) (N : Nt.Net) : PE (XLaw P w K mg base f cdv A outer s0 H0 E) (exAt 0) (tA K a ns r N) := by
  obtain ⟨fa, fda, a1, a2, a3, a4⟩ := H2.ok
  refine pe_mono (pe_call (E := fun _ _ _ => False) a1 (hr.mono (by decide)) rfl a2 a3 a4 .nil pass0 (pa_cons (pe_var (i := 1) rfl (Or.inl rfl)) (pa_cons (pe_var (i := 2) rfl (Or.inl rfl)) pa_nil))) fun σ H Q ⟨HH, B, eq, hB, w0, ok, so, q⟩ => ?_
  obtain ⟨v, hv1, hv⟩ := so.dat (i := 2) rfl
  exact ⟨.ref r, so.slot 1 _ rfl, v, hv1, r, a, ns, B, N, v, rfl, eq, hB, w0, hv, ok, fun as v' B' H' an g hv' => q as v' B' H' an g hv'⟩
theorem qS (M : Mg mg) (r : Addr) (N : Nt.Net) : PD (XLaw P w K mg base f cdv A outer s0 H0 E) (exAt 1) (E0 r (.dat (dNet N)) .no .no .no) (dN (Nt.size N)) :=
  pd_addN (pd_ixTN (pd_v 2) (pd_n 0) rfl) (pd_lenN M.len (pd_ixTN (pd_v 2) (pd_n 1) rfl) isTup (List.length_map ..))
theorem qP (Hs : LH P w K mg base) (hr : Room 7 (XLaw P w K mg base f cdv A outer s0 H0 E).A) (r : Addr) (N : Nt.Net) : PE (XLaw P w K mg base f cdv A outer s0 H0 E) (exAt 2) (tP r N) := by
  obtain ⟨fp, fdp, p1, p2, p3, p4⟩ := Hs.paper.ok
  refine pe_mono (pe_call (E := fun _ _ _ => False) p1 (hr.mono (by decide)) rfl p2 p3 p4 .nil pass0 (pds_one (ρ := E0 r (.dat (dNet N)) .no .no .no) (d := dNet N) (pd_v 2))) fun σ H Q ⟨HH, B, eq, ok, so, q⟩ => ⟨HH, B, eq, so, fun vs B1 H1 g1 h1 => ?_⟩
  show spF RPaper (vs ++ []) H1 _ _
  rw [List.append_nil]
  exact ⟨B1, [dNet N], _, g1.sub, h1, ⟨N, ok, rfl, rfl⟩, fun v B2 H2 g2 hv hF => q v B2 H2 (g1.trans g2) hv hF⟩
theorem q2 (M : Mg mg) (Hs : LH P w K mg base) (H2 : Has P w K mg base "_law_answers" 2 ["_law_row", "_law_net_here"] (spAns K)) (hr : Room 7 (XLaw P w K mg base f cdv A outer s0 H0 E).A) (a : Addr) (ns : List Int) : stX P w K mg base f cdv A outer s0 H0 E 2 (t2 K a ns) := by
  refine ps_mono (ps_asg (pe_tup (pa_cons (pe_ex fun q : Addr × Nt.Net => qA H2 hr a ns q.1 q.2) (pa_cons (pe_ex fun q : Addr × Nt.Net => qS M q.1 q.2) (pa_cons (pe_ex fun q : Addr × Nt.Net => qP Hs hr q.1 q.2) pa_nil))))
        (pg_tup rfl (pgs_cons (pg_name (i := 3) sc_Law.nd rfl (Or.inl rfl) (.inl rfl)) (pgs_cons (pg_name (i := 4) sc_Law.nd rfl (Or.inl rfl) (.inl rfl)) (pgs_cons (pg_name (i := 5) sc_Law.nd rfl (Or.inr rfl) (.inl rfl)) pgs_nil))))) fun D σ H ⟨r, N, HH, B, eq, hB, w0, ok, so, q⟩ => ⟨(r, N), HH, B, eq, hB, w0, ok, so, fun as v3 B3 H3 an g3 hv3 => ?_⟩
  have so3 := so.dg (no_own rfl) g3
  refine ⟨(r, N), HH, B3, g3.sub, so3, fun v4 B4 H4 g4 hv4 => ⟨(r, N), HH, B4, g4.sub, ok, so3.grow g4, fun v5 B5 H5 g5 hv5 hF5 => ⟨by show 3 ≤ sizeLine; decide, fun t ht => ?_⟩⟩⟩
  have g45 := g4.trans g5
  have g6 : Grow B5 H5 B5 (upd H5 t (.tup [v3, v4, v5])) := .aside g5.sub ht
  have g46 := g45.trans g6
  have so6 := (((so3.grow g46).setDat (j := 3) (hv3.mono g45.bb) (Nat.le_of_ble_eq_true rfl)).setDat (j := 4) (hv4.mono g5.bb) (Nat.le_of_ble_eq_true rfl)).setF (j := 5) hv5 hF5 (Nat.le_of_ble_eq_true rfl)
  exact ⟨t, _, rfl, .inl (.inl upd_same), rfl, _, _, rfl, _, _, rfl, _, _, rfl, rfl, q as _ B5 _ an (g3.step g46) so6⟩
end
def tRR (K : PySem.W.Frag) (a : Addr) (ns : List Int) (Pt : Addr) : TS := fun D σ H => ∃ q : {q : Addr × Nt.Net × List Nat // Nt.Ok q.2.1 ∧ Nt.Ans q.2.1 q.2.2}, tY K q.1.1 a ns [(Pt, qq)] (LE q.1.1 q.1.2.1 q.1.2.2 [.no, .no, .no, .no, .no, .no, .no, .no, .no, .no, .no, .no, .no, .no, .no, .no, .no, .no, .no]) D σ H
theorem law_rest {cdv : Value} {A : Around} {outer : List PySem.Env} {s0 : Shared} {H0 : Hp} {E : XK} (M : Mg mg) (Hs : LH P w K mg base) (HR : Has P w K mg base "_law_rest" 7 ["_law_row", "_law_net_here"] (spRest K Pt qq)) (hr : Room 7 (XLaw P w K mg base f cdv A outer s0 H0 E).A) (a : Addr) (ns : List Int) : PSs (XLaw P w K mg base f cdv A outer s0 H0 E) ((defBody s_Law).drop 3) (tRR K a ns Pt) :=
  ⟨fun pins s σ H D I ⟨q, h⟩ => (y_all (r := q.1.1) (N := q.1.2.1) (as := q.1.2.2) (a := a) (ns := ns) M Hs HR hr q.2.1 q.2.2).run pins s σ H D I h⟩
theorem law_fin {K : PySem.W.Frag} {a Pt : Addr} {ns : List Int} {H0 : Hp} {D : Ends} {σ0 : L2.St} (hσ : σ0 = L2.start n_Law [.ref a]) (sc0 : SqL K H0 a (ns.map V.int)) (tb0 : LamX.Tabs [(Pt, qq)] H0) (hD : ∀ H', D.rt (.bl true) H') {t3 : TS} (h3 : ∀ (D' : Ends), D'.rt = D.rt → ∀ σ H, tRR K a ns Pt D' σ H → t3 D' σ H) : tSeq (t0 a) (tSeq (t1 K a ns) (tSeq (t2 K a ns) t3)) D σ0 H0 := by
  subst hσ
  refine ⟨rfl, fun r hr0 => ?_⟩
  have w1 : Rw K r a ns (upd H0 r (.lst [.ref a, .int 0, .int 10312, .int 0])) := ⟨0, 10312, 0, by omega, upd_same, .new sc0 hr0⟩
  have tb1 : LamX.Tabs [(Pt, qq)] (upd H0 r (.lst [.ref a, .int 0, .int 10312, .int 0])) := tb0.ext fun b o e => by rw [upd_ne (ne_of_none e hr0)]; exact e
  have eN : Same (fun _ => none) (upd H0 r (.lst [.ref a, .int 0, .int 10312, .int 0])) := fun b o q => nomatch q
  refine ⟨r, fun _ => none, rfl, eN, rfl, w1, fun N v B2 H2 ok g2 hv => ?_⟩
  have hB2 : B2 r = none := g2.off w1 rfl
  have so2 : Sok H2 B2 H2 (((L2.start n_Law [V.ref a]).set 1 (some (.ref r))).set 2 (some v)) (E0 r (.dat (dNet N)) .no .no .no) := sok_E0.setDat (j := 2) hv (Nat.le_of_ble_eq_true rfl)
  refine ⟨r, N, H2, B2, g2.sub, hB2, g2.row, ok, so2, fun as σ3 B3 H3 an g3 so3 => ?_⟩
  refine h3 _ rfl _ _ ⟨⟨(r, N, as), ok, an⟩, B3, H3, B3, .refl g3.sub, so3.re (no_own rfl), g3.off g2.row hB2, g3.row, tabs_dg g2.row g3 (tabs_dg w1 g2 tb1), hD⟩
theorem law_body {cdv : Value} {A : Around} {outer : List PySem.Env} {s0 : Shared} {H0 : Hp} {E : XK} (M : Mg mg) (Hs : LH P w K mg base) (H1 : Has P w K mg base "_law_net" 2 ["_law_row", "_law_most"] (spNet K)) (H2 : Has P w K mg base "_law_answers" 2 ["_law_row", "_law_net_here"] (spAns K)) (HR : Has P w K mg base "_law_rest" 7 ["_law_row", "_law_net_here"] (spRest K Pt qq)) (hr : Room 7 (XLaw P w K mg base f cdv A outer s0 H0 E).A) (a : Addr) (ns : List Int) : PSs (XLaw P w K mg base f cdv A outer s0 H0 E) (defBody s_Law) (tSeq (t0 a) (tSeq (t1 K a ns) (tSeq (t2 K a ns) (tRR K a ns Pt)))) :=
  pss_cons (q0 a) (pss_cons (q1 H1 hr a ns) (pss_cons (q2 M Hs H2 hr a ns) (law_rest M Hs HR hr a ns)))
theorem w_Law (M : Mg mg) (Hs : LH P w K mg base) (H1 : Has P w K mg base "_law_net" 2 ["_law_row", "_law_most"] (spNet K)) (H2 : Has P w K mg base "_law_answers" 2 ["_law_row", "_law_net_here"] (spAns K)) (HR : Has P w K mg base "_law_rest" 7 ["_law_row", "_law_net_here"] (spRest K Pt qq)) (F : FnP K "law" s_Law f fd) : FnOk P w K mg base CX0 8 f fd ["_law_script"] (spLaw K Pt) := by
  refine F.ok sc_Law (fun vs H Q E ⟨a, ns, e, _⟩ => by rw [e]; rfl) fun cdv A outer s0 H0 vs Q0 E hr ⟨a, ns, ev, sc0, tb0, q0'⟩ => ?_
  exact ⟨_, PSs.nox (law_body M Hs H1 H2 HR hr a ns), law_fin (by rw [ev]) sc0 tb0 q0' fun _ _ _ _ h => h⟩
end
end Wk
end

section
set_option maxHeartbeats 0
namespace Hd
open PySem PySem.Spec PyProof.Rows L2
abbrev R : PySem.W.OpenRow := PySem.W.OpenLaw.row PySem.Challenge.rw_standgates_k12_whole_smaller_nets
def top (i : Nat) : Stmt := PySem.Challenge.pw_standgates_k12_whole_smaller_nets.main.body.getD i (.Pass ⟨0, 0, 0, 0⟩)
def loose1 : List Str := ["GateError", "BadNet", "BadPerson", "BadAnswers", "NotMade", "TooMany", "is_integer", "is_in", "is_list", "MOST_INPUTS", "MOST_GATES", "need_net", "size_of", "need_person", "need_answers", "friends_in", "all_bits", "uppers_in", "standing_in", "paper_in", "tables_of", "cut_in", "cut"]
def loose2 : List Str := ["tied", "left", "taken_out", "needless_friends", "needless_in", "needless_people", "only_needed", "joined", "thinned", "is_thin", "same_answers", "_law_taken", "_law_alike", "_law_net", "_law_bits", "_law_end", "_law_paper", "_law_answers", "_law_told", "_law_left", "_law_cut", "_law_upper", "_law_rest"]
def loose : List Str := loose1 ++ loose2
def df (n : Str) (i : Nat) : He.DefD := ⟨(n, none), n, n, defArgs (top i), defBody (top i), defScope (top i), [], []⟩
def fn : List He.DefD := [df "is_integer" 8, df "is_in" 9, df "is_list" 10, df "need_net" 14, df "size_of" 15, df "need_person" 16, df "need_answers" 17, df "friends_in" 18, df "all_bits" 19, df "uppers_in" 20, df "standing_in" 22, df "paper_in" 23, df "tables_of" 25, df "cut_in" 26, df "cut" 27, df "tied" 28, df "left" 29, df "taken_out" 30, df "needless_friends" 31, df "needless_in" 32, df "needless_people" 33, df "only_needed" 34, df "joined" 35, df "thinned" 36, df "is_thin" 37, df "same_answers" 38, df "_law_taken" 40, df "_law_alike" 41, df "_law_net" 42, df "_law_bits" 43, df "_law_end" 44, df "_law_paper" 45, df "_law_answers" 46, df "_law_told" 47, df "_law_left" 48, df "_law_cut" 49, df "_law_upper" 50, df "_law_rest" 51, df "law" 52]
def glo1 : List He.Fa := [.glo "GateError", .glo "BadNet", .glo "BadPerson", .glo "BadAnswers", .glo "NotMade", .glo "TooMany", .glo "is_integer", .glo "is_in", .glo "is_list", .glo "need_net", .glo "size_of", .glo "need_person", .glo "need_answers", .glo "friends_in", .glo "all_bits", .glo "uppers_in", .glo "standing_in", .glo "paper_in", .glo "tables_of", .glo "cut_in", .glo "cut", .glo "tied", .glo "left", .glo "taken_out"]
def glo2 : List He.Fa := [.glo "needless_friends", .glo "needless_in", .glo "needless_people", .glo "only_needed", .glo "joined", .glo "thinned", .glo "is_thin", .glo "same_answers", .glo "_law_taken", .glo "_law_alike", .glo "_law_net", .glo "_law_bits", .glo "_law_end", .glo "_law_paper", .glo "_law_answers", .glo "_law_told", .glo "_law_left", .glo "_law_cut", .glo "_law_upper", .glo "_law_rest", .glo "law"]
def blt : List He.Fa := [.free "len", .free "isinstance", .free "int", .free "bool", .free "tuple", .free "list", .free "set", .free "sorted", .free "all", .free "any", .free "enumerate", .free "range", .free "dict", .free "str"]
def fa : List He.Fa := glo1 ++ glo2 ++ blt ++ [.int "MOST_INPUTS" 3, .int "MOST_GATES" 8, .exc "NotMade", .exm "NotMade" "GateError" true]
open PySem.W He in
/-- more of the classes -/
def ex (K : PySem.W.Frag) : Bool :=
  decide (findIn K (.ref (ga K "NotMade")) "__getattribute__" = some (some (.builtin "BaseException.__getattribute__"))) &&
  decide (findIn K (.ref (ga K "NotMade")) "__getattr__" = some none) &&
  hasDictIn K (ga K "NotMade") &&
  decide (findIn K (.ref (ga K "NotMade")) "__class__" = some (some (.builtin "object.__class__"))) &&
  decide (specialIn K (.builtin "object.__class__") "__get__" = some (some (.builtin "getset_descriptor.__get__"))) &&
  decide (takesIn K (.builtin "object.__class__") = some true) &&
  decide (mroIn K (ga K "NotMade") (.type "object") = some true) &&
  decide (kitOne K (.ref (ga K "NotMade")) (.ref (ga K "TooMany")) = some false) &&
  decide (kitOne K (.ref (ga K "NotMade")) (.ref (ga K "NotMade")) = some true)
def tf : List He.Defn := [("_law_rest", none)]
abbrev hk : PySem.W.Hook := He.hookX 4 fa fn [] tf ex
def ob (s : PySem.W.SharedT) : He.AlX := He.obsX 4 fa fn [] tf ex (HandSHeadRun.getT s)
theorem ob_eq (s : PySem.W.SharedT) : ob s = hk.obs s.abs := He.obsX_eq (HandSHeadRun.getT_eq s)
theorem run (w : World) : HandSHeadRun.RunEq R (PySem.W.view R.prog [52]) hk ob 4000 loose w := by
  intro os
  kernel_rfl
end Hd
end

section
set_option maxHeartbeats 4000000
namespace Wk
open PySem PySem.Spec PyProof.Rows L2 Dc Tx
theorem mkHas {P : Program} {w : World} {K : PySem.W.Frag} {mg : Str → Option Value} {base : Heap} {x : Str} {st : Stmt} {f : Addr} {fd : FuncData} {k : Nat} {ps : List Str} {sp : Sp} (F : FnP K x st f fd) (ok : FnOk P w K mg base CX0 k f fd ps sp) (g : mg x = some (.ref f)) (b : Binds K fd ps []) : Has P w K mg base x k ps sp := ⟨f, fd, ok, g, F.kp, b⟩
theorem mkHasX {P : Program} {w : World} {K : PySem.W.Frag} {mg : Str → Option Value} {base : Heap} {x : Str} {st : Stmt} {f : Addr} {fd : FuncData} {k : Nat} {ps : List Str} {sp : Sp} (F : FnP K x st f fd) (ok : FnOk P w K mg base (L2.CX P w) k f fd ps sp) (g : mg x = some (.ref f)) (b : Binds K fd ps []) : HasX P w K mg base x k ps sp := ⟨f, fd, ok, g, F.kp, b⟩
/-- all defs, as the head says them -/
structure Df (K : PySem.W.Frag) (mg : Str → Option Value) (x : Str) (st : Stmt) (ps : List Str) (f : Addr) (fd : FuncData) : Prop where
  F : FnP K x st f fd
  g : mg x = some (.ref f)
  b : Binds K fd ps []
section
variable {K : PySem.W.Frag} {h : Heap} {mg : Str → Option Value} {w : World}

theorem d_is_integer (X : K.In h) (G : h.Ns mainGlobals mg) (c : He.SaysD Hd.fa Hd.fn K) : ∃ fd, Df K mg "is_integer" s_is_integer (n_is_integer.take 1) (He.fAd K ("is_integer", none)) fd := by
  obtain ⟨fd, F⟩ := c.def_ 0 (d := Hd.df "is_integer" 8) rfl
  exact ⟨fd, F, He.glo_ok X G (c.fact 6 (f := .glo "is_integer") rfl), FunD.bindsN (ps := n_is_integer.take 1) F fun _ _ _ _ _ _ us hl => match us, hl with | [_], _ => rfl⟩
theorem d_is_in (X : K.In h) (G : h.Ns mainGlobals mg) (c : He.SaysD Hd.fa Hd.fn K) : ∃ fd, Df K mg "is_in" s_is_in (n_is_in.take 3) (He.fAd K ("is_in", none)) fd := by
  obtain ⟨fd, F⟩ := c.def_ 1 (d := Hd.df "is_in" 9) rfl
  exact ⟨fd, F, He.glo_ok X G (c.fact 7 (f := .glo "is_in") rfl), FunD.bindsN (ps := n_is_in.take 3) F fun _ _ _ _ _ _ us hl => match us, hl with | [_, _, _], _ => rfl⟩
theorem d_is_list (X : K.In h) (G : h.Ns mainGlobals mg) (c : He.SaysD Hd.fa Hd.fn K) : ∃ fd, Df K mg "is_list" s_is_list (n_is_list.take 3) (He.fAd K ("is_list", none)) fd := by
  obtain ⟨fd, F⟩ := c.def_ 2 (d := Hd.df "is_list" 10) rfl
  exact ⟨fd, F, He.glo_ok X G (c.fact 8 (f := .glo "is_list") rfl), FunD.bindsN (ps := n_is_list.take 3) F fun _ _ _ _ _ _ us hl => match us, hl with | [_, _, _], _ => rfl⟩
theorem d_need_net (X : K.In h) (G : h.Ns mainGlobals mg) (c : He.SaysD Hd.fa Hd.fn K) : ∃ fd, Df K mg "need_net" s_need_net (n_need_net.take 1) (He.fAd K ("need_net", none)) fd := by
  obtain ⟨fd, F⟩ := c.def_ 3 (d := Hd.df "need_net" 14) rfl
  exact ⟨fd, F, He.glo_ok X G (c.fact 9 (f := .glo "need_net") rfl), FunD.bindsN (ps := n_need_net.take 1) F fun _ _ _ _ _ _ us hl => match us, hl with | [_], _ => rfl⟩
theorem d_size_of (X : K.In h) (G : h.Ns mainGlobals mg) (c : He.SaysD Hd.fa Hd.fn K) : ∃ fd, Df K mg "size_of" s_size_of (n_size_of.take 1) (He.fAd K ("size_of", none)) fd := by
  obtain ⟨fd, F⟩ := c.def_ 4 (d := Hd.df "size_of" 15) rfl
  exact ⟨fd, F, He.glo_ok X G (c.fact 10 (f := .glo "size_of") rfl), FunD.bindsN (ps := n_size_of.take 1) F fun _ _ _ _ _ _ us hl => match us, hl with | [_], _ => rfl⟩
theorem d_need_person (X : K.In h) (G : h.Ns mainGlobals mg) (c : He.SaysD Hd.fa Hd.fn K) : ∃ fd, Df K mg "need_person" s_need_person (n_need_person.take 2) (He.fAd K ("need_person", none)) fd := by
  obtain ⟨fd, F⟩ := c.def_ 5 (d := Hd.df "need_person" 16) rfl
  exact ⟨fd, F, He.glo_ok X G (c.fact 11 (f := .glo "need_person") rfl), FunD.bindsN (ps := n_need_person.take 2) F fun _ _ _ _ _ _ us hl => match us, hl with | [_, _], _ => rfl⟩
theorem d_need_answers (X : K.In h) (G : h.Ns mainGlobals mg) (c : He.SaysD Hd.fa Hd.fn K) : ∃ fd, Df K mg "need_answers" s_need_answers (n_need_answers.take 2) (He.fAd K ("need_answers", none)) fd := by
  obtain ⟨fd, F⟩ := c.def_ 6 (d := Hd.df "need_answers" 17) rfl
  exact ⟨fd, F, He.glo_ok X G (c.fact 12 (f := .glo "need_answers") rfl), FunD.bindsN (ps := n_need_answers.take 2) F fun _ _ _ _ _ _ us hl => match us, hl with | [_, _], _ => rfl⟩
theorem d_friends_in (X : K.In h) (G : h.Ns mainGlobals mg) (c : He.SaysD Hd.fa Hd.fn K) : ∃ fd, Df K mg "friends_in" s_friends_in (n_friends_in.take 2) (He.fAd K ("friends_in", none)) fd := by
  obtain ⟨fd, F⟩ := c.def_ 7 (d := Hd.df "friends_in" 18) rfl
  exact ⟨fd, F, He.glo_ok X G (c.fact 13 (f := .glo "friends_in") rfl), FunD.bindsN (ps := n_friends_in.take 2) F fun _ _ _ _ _ _ us hl => match us, hl with | [_, _], _ => rfl⟩
theorem d_all_bits (X : K.In h) (G : h.Ns mainGlobals mg) (c : He.SaysD Hd.fa Hd.fn K) : ∃ fd, Df K mg "all_bits" s_all_bits (n_all_bits.take 1) (He.fAd K ("all_bits", none)) fd := by
  obtain ⟨fd, F⟩ := c.def_ 8 (d := Hd.df "all_bits" 19) rfl
  exact ⟨fd, F, He.glo_ok X G (c.fact 14 (f := .glo "all_bits") rfl), FunD.bindsN (ps := n_all_bits.take 1) F fun _ _ _ _ _ _ us hl => match us, hl with | [_], _ => rfl⟩
theorem d_uppers_in (X : K.In h) (G : h.Ns mainGlobals mg) (c : He.SaysD Hd.fa Hd.fn K) : ∃ fd, Df K mg "uppers_in" s_uppers_in (n_uppers_in.take 2) (He.fAd K ("uppers_in", none)) fd := by
  obtain ⟨fd, F⟩ := c.def_ 9 (d := Hd.df "uppers_in" 20) rfl
  exact ⟨fd, F, He.glo_ok X G (c.fact 15 (f := .glo "uppers_in") rfl), FunD.bindsN (ps := n_uppers_in.take 2) F fun _ _ _ _ _ _ us hl => match us, hl with | [_, _], _ => rfl⟩
theorem d_standing_in (X : K.In h) (G : h.Ns mainGlobals mg) (c : He.SaysD Hd.fa Hd.fn K) : ∃ fd, Df K mg "standing_in" s_standing_in (n_standing_in.take 2) (He.fAd K ("standing_in", none)) fd := by
  obtain ⟨fd, F⟩ := c.def_ 10 (d := Hd.df "standing_in" 22) rfl
  exact ⟨fd, F, He.glo_ok X G (c.fact 16 (f := .glo "standing_in") rfl), FunD.bindsN (ps := n_standing_in.take 2) F fun _ _ _ _ _ _ us hl => match us, hl with | [_, _], _ => rfl⟩
theorem d_paper_in (X : K.In h) (G : h.Ns mainGlobals mg) (c : He.SaysD Hd.fa Hd.fn K) : ∃ fd, Df K mg "paper_in" s_paper_in (n_paper_in.take 1) (He.fAd K ("paper_in", none)) fd := by
  obtain ⟨fd, F⟩ := c.def_ 11 (d := Hd.df "paper_in" 23) rfl
  exact ⟨fd, F, He.glo_ok X G (c.fact 17 (f := .glo "paper_in") rfl), FunD.bindsN (ps := n_paper_in.take 1) F fun _ _ _ _ _ _ us hl => match us, hl with | [_], _ => rfl⟩
theorem d_tables_of (X : K.In h) (G : h.Ns mainGlobals mg) (c : He.SaysD Hd.fa Hd.fn K) : ∃ fd, Df K mg "tables_of" s_tables_of (n_tables_of.take 2) (He.fAd K ("tables_of", none)) fd := by
  obtain ⟨fd, F⟩ := c.def_ 12 (d := Hd.df "tables_of" 25) rfl
  exact ⟨fd, F, He.glo_ok X G (c.fact 18 (f := .glo "tables_of") rfl), FunD.bindsN (ps := n_tables_of.take 2) F fun _ _ _ _ _ _ us hl => match us, hl with | [_, _], _ => rfl⟩
theorem d_cut_in (X : K.In h) (G : h.Ns mainGlobals mg) (c : He.SaysD Hd.fa Hd.fn K) : ∃ fd, Df K mg "cut_in" s_cut_in (n_cut_in.take 3) (He.fAd K ("cut_in", none)) fd := by
  obtain ⟨fd, F⟩ := c.def_ 13 (d := Hd.df "cut_in" 26) rfl
  exact ⟨fd, F, He.glo_ok X G (c.fact 19 (f := .glo "cut_in") rfl), FunD.bindsN (ps := n_cut_in.take 3) F fun _ _ _ _ _ _ us hl => match us, hl with | [_, _, _], _ => rfl⟩
theorem d_cut (X : K.In h) (G : h.Ns mainGlobals mg) (c : He.SaysD Hd.fa Hd.fn K) : ∃ fd, Df K mg "cut" s_cut (n_cut.take 3) (He.fAd K ("cut", none)) fd := by
  obtain ⟨fd, F⟩ := c.def_ 14 (d := Hd.df "cut" 27) rfl
  exact ⟨fd, F, He.glo_ok X G (c.fact 20 (f := .glo "cut") rfl), FunD.bindsN (ps := n_cut.take 3) F fun _ _ _ _ _ _ us hl => match us, hl with | [_, _, _], _ => rfl⟩
theorem d_tied (X : K.In h) (G : h.Ns mainGlobals mg) (c : He.SaysD Hd.fa Hd.fn K) : ∃ fd, Df K mg "tied" s_tied (n_tied.take 3) (He.fAd K ("tied", none)) fd := by
  obtain ⟨fd, F⟩ := c.def_ 15 (d := Hd.df "tied" 28) rfl
  exact ⟨fd, F, He.glo_ok X G (c.fact 21 (f := .glo "tied") rfl), FunD.bindsN (ps := n_tied.take 3) F fun _ _ _ _ _ _ us hl => match us, hl with | [_, _, _], _ => rfl⟩
theorem d_left (X : K.In h) (G : h.Ns mainGlobals mg) (c : He.SaysD Hd.fa Hd.fn K) : ∃ fd, Df K mg "left" s_left (n_left.take 2) (He.fAd K ("left", none)) fd := by
  obtain ⟨fd, F⟩ := c.def_ 16 (d := Hd.df "left" 29) rfl
  exact ⟨fd, F, He.glo_ok X G (c.fact 22 (f := .glo "left") rfl), FunD.bindsN (ps := n_left.take 2) F fun _ _ _ _ _ _ us hl => match us, hl with | [_, _], _ => rfl⟩
theorem d_taken_out (X : K.In h) (G : h.Ns mainGlobals mg) (c : He.SaysD Hd.fa Hd.fn K) : ∃ fd, Df K mg "taken_out" s_taken_out (n_taken_out.take 2) (He.fAd K ("taken_out", none)) fd := by
  obtain ⟨fd, F⟩ := c.def_ 17 (d := Hd.df "taken_out" 30) rfl
  exact ⟨fd, F, He.glo_ok X G (c.fact 23 (f := .glo "taken_out") rfl), FunD.bindsN (ps := n_taken_out.take 2) F fun _ _ _ _ _ _ us hl => match us, hl with | [_, _], _ => rfl⟩
theorem d_needless_friends (X : K.In h) (G : h.Ns mainGlobals mg) (c : He.SaysD Hd.fa Hd.fn K) : ∃ fd, Df K mg "needless_friends" s_needless_friends (n_needless_friends.take 2) (He.fAd K ("needless_friends", none)) fd := by
  obtain ⟨fd, F⟩ := c.def_ 18 (d := Hd.df "needless_friends" 31) rfl
  exact ⟨fd, F, He.glo_ok X G (c.fact 24 (f := .glo "needless_friends") rfl), FunD.bindsN (ps := n_needless_friends.take 2) F fun _ _ _ _ _ _ us hl => match us, hl with | [_, _], _ => rfl⟩
theorem d_needless_in (X : K.In h) (G : h.Ns mainGlobals mg) (c : He.SaysD Hd.fa Hd.fn K) : ∃ fd, Df K mg "needless_in" s_needless_in (n_needless_in.take 2) (He.fAd K ("needless_in", none)) fd := by
  obtain ⟨fd, F⟩ := c.def_ 19 (d := Hd.df "needless_in" 32) rfl
  exact ⟨fd, F, He.glo_ok X G (c.fact 25 (f := .glo "needless_in") rfl), FunD.bindsN (ps := n_needless_in.take 2) F fun _ _ _ _ _ _ us hl => match us, hl with | [_, _], _ => rfl⟩
theorem d_needless_people (X : K.In h) (G : h.Ns mainGlobals mg) (c : He.SaysD Hd.fa Hd.fn K) : ∃ fd, Df K mg "needless_people" s_needless_people (n_needless_people.take 2) (He.fAd K ("needless_people", none)) fd := by
  obtain ⟨fd, F⟩ := c.def_ 20 (d := Hd.df "needless_people" 33) rfl
  exact ⟨fd, F, He.glo_ok X G (c.fact 26 (f := .glo "needless_people") rfl), FunD.bindsN (ps := n_needless_people.take 2) F fun _ _ _ _ _ _ us hl => match us, hl with | [_, _], _ => rfl⟩
theorem d_only_needed (X : K.In h) (G : h.Ns mainGlobals mg) (c : He.SaysD Hd.fa Hd.fn K) : ∃ fd, Df K mg "only_needed" s_only_needed (n_only_needed.take 2) (He.fAd K ("only_needed", none)) fd := by
  obtain ⟨fd, F⟩ := c.def_ 21 (d := Hd.df "only_needed" 34) rfl
  exact ⟨fd, F, He.glo_ok X G (c.fact 27 (f := .glo "only_needed") rfl), FunD.bindsN (ps := n_only_needed.take 2) F fun _ _ _ _ _ _ us hl => match us, hl with | [_, _], _ => rfl⟩
theorem d_joined (X : K.In h) (G : h.Ns mainGlobals mg) (c : He.SaysD Hd.fa Hd.fn K) : ∃ fd, Df K mg "joined" s_joined (n_joined.take 2) (He.fAd K ("joined", none)) fd := by
  obtain ⟨fd, F⟩ := c.def_ 22 (d := Hd.df "joined" 35) rfl
  exact ⟨fd, F, He.glo_ok X G (c.fact 28 (f := .glo "joined") rfl), FunD.bindsN (ps := n_joined.take 2) F fun _ _ _ _ _ _ us hl => match us, hl with | [_, _], _ => rfl⟩
theorem d_thinned (X : K.In h) (G : h.Ns mainGlobals mg) (c : He.SaysD Hd.fa Hd.fn K) : ∃ fd, Df K mg "thinned" s_thinned (n_thinned.take 2) (He.fAd K ("thinned", none)) fd := by
  obtain ⟨fd, F⟩ := c.def_ 23 (d := Hd.df "thinned" 36) rfl
  exact ⟨fd, F, He.glo_ok X G (c.fact 29 (f := .glo "thinned") rfl), FunD.bindsN (ps := n_thinned.take 2) F fun _ _ _ _ _ _ us hl => match us, hl with | [_, _], _ => rfl⟩
theorem d_is_thin (X : K.In h) (G : h.Ns mainGlobals mg) (c : He.SaysD Hd.fa Hd.fn K) : ∃ fd, Df K mg "is_thin" s_is_thin (n_is_thin.take 2) (He.fAd K ("is_thin", none)) fd := by
  obtain ⟨fd, F⟩ := c.def_ 24 (d := Hd.df "is_thin" 37) rfl
  exact ⟨fd, F, He.glo_ok X G (c.fact 30 (f := .glo "is_thin") rfl), FunD.bindsN (ps := n_is_thin.take 2) F fun _ _ _ _ _ _ us hl => match us, hl with | [_, _], _ => rfl⟩
theorem d_same_answers (X : K.In h) (G : h.Ns mainGlobals mg) (c : He.SaysD Hd.fa Hd.fn K) : ∃ fd, Df K mg "same_answers" s_same_answers (n_same_answers.take 4) (He.fAd K ("same_answers", none)) fd := by
  obtain ⟨fd, F⟩ := c.def_ 25 (d := Hd.df "same_answers" 38) rfl
  exact ⟨fd, F, He.glo_ok X G (c.fact 31 (f := .glo "same_answers") rfl), FunD.bindsN (ps := n_same_answers.take 4) F fun _ _ _ _ _ _ us hl => match us, hl with | [_, _, _, _], _ => rfl⟩
theorem d_L_taken (X : K.In h) (G : h.Ns mainGlobals mg) (c : He.SaysD Hd.fa Hd.fn K) : ∃ fd, Df K mg "_law_taken" s_L_taken (n_L_taken.take 2) (He.fAd K ("_law_taken", none)) fd := by
  obtain ⟨fd, F⟩ := c.def_ 26 (d := Hd.df "_law_taken" 40) rfl
  exact ⟨fd, F, He.glo_ok X G (c.fact 32 (f := .glo "_law_taken") rfl), FunD.bindsN (ps := n_L_taken.take 2) F fun _ _ _ _ _ _ us hl => match us, hl with | [_, _], _ => rfl⟩
theorem d_L_alike (X : K.In h) (G : h.Ns mainGlobals mg) (c : He.SaysD Hd.fa Hd.fn K) : ∃ fd, Df K mg "_law_alike" s_L_alike (n_L_alike.take 2) (He.fAd K ("_law_alike", none)) fd := by
  obtain ⟨fd, F⟩ := c.def_ 27 (d := Hd.df "_law_alike" 41) rfl
  exact ⟨fd, F, He.glo_ok X G (c.fact 33 (f := .glo "_law_alike") rfl), FunD.bindsN (ps := n_L_alike.take 2) F fun _ _ _ _ _ _ us hl => match us, hl with | [_, _], _ => rfl⟩
theorem d_L_net (X : K.In h) (G : h.Ns mainGlobals mg) (c : He.SaysD Hd.fa Hd.fn K) : ∃ fd, Df K mg "_law_net" s_L_net (n_L_net.take 2) (He.fAd K ("_law_net", none)) fd := by
  obtain ⟨fd, F⟩ := c.def_ 28 (d := Hd.df "_law_net" 42) rfl
  exact ⟨fd, F, He.glo_ok X G (c.fact 34 (f := .glo "_law_net") rfl), FunD.bindsN (ps := n_L_net.take 2) F fun _ _ _ _ _ _ us hl => match us, hl with | [_, _], _ => rfl⟩
theorem d_L_bits (X : K.In h) (G : h.Ns mainGlobals mg) (c : He.SaysD Hd.fa Hd.fn K) : ∃ fd, Df K mg "_law_bits" s_L_bits (n_L_bits.take 1) (He.fAd K ("_law_bits", none)) fd := by
  obtain ⟨fd, F⟩ := c.def_ 29 (d := Hd.df "_law_bits" 43) rfl
  exact ⟨fd, F, He.glo_ok X G (c.fact 35 (f := .glo "_law_bits") rfl), FunD.bindsN (ps := n_L_bits.take 1) F fun _ _ _ _ _ _ us hl => match us, hl with | [_], _ => rfl⟩
theorem d_L_end (X : K.In h) (G : h.Ns mainGlobals mg) (c : He.SaysD Hd.fa Hd.fn K) : ∃ fd, Df K mg "_law_end" s_L_end (n_L_end.take 2) (He.fAd K ("_law_end", none)) fd := by
  obtain ⟨fd, F⟩ := c.def_ 30 (d := Hd.df "_law_end" 44) rfl
  exact ⟨fd, F, He.glo_ok X G (c.fact 36 (f := .glo "_law_end") rfl), FunD.bindsN (ps := n_L_end.take 2) F fun _ _ _ _ _ _ us hl => match us, hl with | [_, _], _ => rfl⟩
theorem d_L_paper (X : K.In h) (G : h.Ns mainGlobals mg) (c : He.SaysD Hd.fa Hd.fn K) : ∃ fd, Df K mg "_law_paper" s_L_paper (n_L_paper.take 1) (He.fAd K ("_law_paper", none)) fd := by
  obtain ⟨fd, F⟩ := c.def_ 31 (d := Hd.df "_law_paper" 45) rfl
  exact ⟨fd, F, He.glo_ok X G (c.fact 37 (f := .glo "_law_paper") rfl), FunD.bindsN (ps := n_L_paper.take 1) F fun _ _ _ _ _ _ us hl => match us, hl with | [_], _ => rfl⟩
theorem d_L_answers (X : K.In h) (G : h.Ns mainGlobals mg) (c : He.SaysD Hd.fa Hd.fn K) : ∃ fd, Df K mg "_law_answers" s_L_answers (n_L_answers.take 2) (He.fAd K ("_law_answers", none)) fd := by
  obtain ⟨fd, F⟩ := c.def_ 32 (d := Hd.df "_law_answers" 46) rfl
  exact ⟨fd, F, He.glo_ok X G (c.fact 38 (f := .glo "_law_answers") rfl), FunD.bindsN (ps := n_L_answers.take 2) F fun _ _ _ _ _ _ us hl => match us, hl with | [_, _], _ => rfl⟩
theorem d_L_told (X : K.In h) (G : h.Ns mainGlobals mg) (c : He.SaysD Hd.fa Hd.fn K) : ∃ fd, Df K mg "_law_told" s_L_told (n_L_told.take 1) (He.fAd K ("_law_told", none)) fd := by
  obtain ⟨fd, F⟩ := c.def_ 33 (d := Hd.df "_law_told" 47) rfl
  exact ⟨fd, F, He.glo_ok X G (c.fact 39 (f := .glo "_law_told") rfl), FunD.bindsN (ps := n_L_told.take 1) F fun _ _ _ _ _ _ us hl => match us, hl with | [_], _ => rfl⟩
theorem d_L_left (X : K.In h) (G : h.Ns mainGlobals mg) (c : He.SaysD Hd.fa Hd.fn K) : ∃ fd, Df K mg "_law_left" s_L_left (n_L_left.take 2) (He.fAd K ("_law_left", none)) fd := by
  obtain ⟨fd, F⟩ := c.def_ 34 (d := Hd.df "_law_left" 48) rfl
  exact ⟨fd, F, He.glo_ok X G (c.fact 40 (f := .glo "_law_left") rfl), FunD.bindsN (ps := n_L_left.take 2) F fun _ _ _ _ _ _ us hl => match us, hl with | [_, _], _ => rfl⟩
theorem d_L_cut (X : K.In h) (G : h.Ns mainGlobals mg) (c : He.SaysD Hd.fa Hd.fn K) : ∃ fd, Df K mg "_law_cut" s_L_cut (n_L_cut.take 3) (He.fAd K ("_law_cut", none)) fd := by
  obtain ⟨fd, F⟩ := c.def_ 35 (d := Hd.df "_law_cut" 49) rfl
  exact ⟨fd, F, He.glo_ok X G (c.fact 41 (f := .glo "_law_cut") rfl), FunD.bindsN (ps := n_L_cut.take 3) F fun _ _ _ _ _ _ us hl => match us, hl with | [_, _, _], _ => rfl⟩
theorem d_L_upper (X : K.In h) (G : h.Ns mainGlobals mg) (c : He.SaysD Hd.fa Hd.fn K) : ∃ fd, Df K mg "_law_upper" s_L_upper (n_L_upper.take 2) (He.fAd K ("_law_upper", none)) fd := by
  obtain ⟨fd, F⟩ := c.def_ 36 (d := Hd.df "_law_upper" 50) rfl
  exact ⟨fd, F, He.glo_ok X G (c.fact 42 (f := .glo "_law_upper") rfl), FunD.bindsN (ps := n_L_upper.take 2) F fun _ _ _ _ _ _ us hl => match us, hl with | [_, _], _ => rfl⟩
theorem d_L_rest (X : K.In h) (G : h.Ns mainGlobals mg) (c : He.SaysD Hd.fa Hd.fn K) : ∃ fd, Df K mg "_law_rest" s_L_rest (n_L_rest.take 2) (He.fAd K ("_law_rest", none)) fd := by
  obtain ⟨fd, F⟩ := c.def_ 37 (d := Hd.df "_law_rest" 51) rfl
  exact ⟨fd, F, He.glo_ok X G (c.fact 43 (f := .glo "_law_rest") rfl), FunD.bindsN (ps := n_L_rest.take 2) F fun _ _ _ _ _ _ us hl => match us, hl with | [_, _], _ => rfl⟩
theorem d_Law (X : K.In h) (G : h.Ns mainGlobals mg) (c : He.SaysD Hd.fa Hd.fn K) : ∃ fd, Df K mg "law" s_Law (n_Law.take 1) (He.fAd K ("law", none)) fd := by
  obtain ⟨fd, F⟩ := c.def_ 38 (d := Hd.df "law" 52) rfl
  exact ⟨fd, F, He.glo_ok X G (c.fact 44 (f := .glo "law") rfl), FunD.bindsN (ps := n_Law.take 1) F fun _ _ _ _ _ _ us hl => match us, hl with | [_], _ => rfl⟩
theorem mg_of (X : K.In h) (G : h.Ns mainGlobals mg) (c : He.SaysD Hd.fa Hd.fn K) : Mg mg :=
  ⟨He.free_ok X G (c.fact 45 (f := .free "len") rfl), He.free_ok X G (c.fact 46 (f := .free "isinstance") rfl), He.free_ok X G (c.fact 47 (f := .free "int") rfl), He.free_ok X G (c.fact 48 (f := .free "bool") rfl), He.free_ok X G (c.fact 49 (f := .free "tuple") rfl), He.free_ok X G (c.fact 50 (f := .free "list") rfl), He.free_ok X G (c.fact 51 (f := .free "set") rfl), He.free_ok X G (c.fact 52 (f := .free "sorted") rfl), He.free_ok X G (c.fact 53 (f := .free "all") rfl), He.free_ok X G (c.fact 54 (f := .free "any") rfl), He.free_ok X G (c.fact 55 (f := .free "enumerate") rfl), He.free_ok X G (c.fact 56 (f := .free "range") rfl), He.free_ok X G (c.fact 57 (f := .free "dict") rfl), He.free_ok X G (c.fact 58 (f := .free "str") rfl), He.int_ok X G (c.fact 59 (f := .int "MOST_INPUTS" 3) rfl), He.int_ok X G (c.fact 60 (f := .int "MOST_GATES" 8) rfl)⟩
theorem nm_of (X : K.In h) (G : h.Ns mainGlobals mg) (c : He.SaysD Hd.fa Hd.fn K) : NM K mg (He.ga K "NotMade") := by
  obtain ⟨h1, h2, h3, h4⟩ := He.exc_ok (c.fact 61 (f := .exc "NotMade") rfl)
  exact ⟨He.glo_ok X G (c.fact 4 (f := .glo "NotMade") rfl), h1, h2, h3, h4⟩
theorem told_of (X : K.In h) (G : h.Ns mainGlobals mg) (c : He.SaysD Hd.fa Hd.fn K) (e : Hd.ex K = true) : ToldK K mg (He.ga K "NotMade") (He.ga K "GateError") (He.ga K "TooMany") := by
  obtain ⟨h1, h2, h3, h4⟩ := He.exc_ok (c.fact 61 (f := .exc "NotMade") rfl)
  unfold Hd.ex at e
  simp only [Bool.and_eq_true, decide_eq_true_eq] at e
  obtain ⟨⟨⟨⟨⟨⟨⟨⟨e1, e2⟩, e3⟩, e4⟩, e5⟩, e6⟩, e7⟩, e8⟩, e9⟩ := e
  exact ⟨He.glo_ok X G (c.fact 0 (f := .glo "GateError") rfl), He.glo_ok X G (c.fact 5 (f := .glo "TooMany") rfl), He.glo_ok X G (c.fact 4 (f := .glo "NotMade") rfl), He.free_ok X G (c.fact 46 (f := .free "isinstance") rfl), He.exm_ok (c.fact 62 (f := .exm "NotMade" "GateError" true) rfl), ⟨e1, e2, h3, e3, e4, e5, e6, e7⟩, e8, e9⟩
end
end Wk
end

section
set_option maxHeartbeats 4000000
namespace Wk
open PySem PySem.Spec PyProof.Rows L2 Dc Tx
theorem code_of {K : PySem.W.Frag} {x : Str} {st : Stmt} {fd : FuncData} (F : FnP K x st (He.fAd K (x, none)) fd) : fd.code = .ref (He.codeOf K (x, none)) := by
  obtain ⟨oc, od, dV, kV, doc, pm, an, cdv, ct, osl, rfl, lk, hcd, _, _⟩ := F.ex
  obtain ⟨c, rfl⟩ := He.codeIn_ref hcd
  rw [He.codeOf_eq (p := (x, none)) lk rfl] <;> rfl
theorem facts {w : World} {K : PySem.W.Frag} {h : Heap} {mg : Str → Option Value} {fa : Addr} (X : K.In h) (G : h.Ns mainGlobals mg) (hfa : mg "law" = some (.ref fa)) (c : He.SaysX Hd.fa Hd.fn [] Hd.tf Hd.ex w h K) : LamX.LawAtS PySem.Challenge.rw_standgates_k12_whole_smaller_nets w K CX0 8 63 "_law_script" mg fa h := by
  have D := c.t.d
  obtain ⟨f_is_integer, D_is_integer⟩ := d_is_integer X G D
  obtain ⟨f_is_in, D_is_in⟩ := d_is_in X G D
  obtain ⟨f_is_list, D_is_list⟩ := d_is_list X G D
  obtain ⟨f_need_net, D_need_net⟩ := d_need_net X G D
  obtain ⟨f_size_of, D_size_of⟩ := d_size_of X G D
  obtain ⟨f_need_person, D_need_person⟩ := d_need_person X G D
  obtain ⟨f_need_answers, D_need_answers⟩ := d_need_answers X G D
  obtain ⟨f_friends_in, D_friends_in⟩ := d_friends_in X G D
  obtain ⟨f_all_bits, D_all_bits⟩ := d_all_bits X G D
  obtain ⟨f_uppers_in, D_uppers_in⟩ := d_uppers_in X G D
  obtain ⟨f_standing_in, D_standing_in⟩ := d_standing_in X G D
  obtain ⟨f_paper_in, D_paper_in⟩ := d_paper_in X G D
  obtain ⟨f_tables_of, D_tables_of⟩ := d_tables_of X G D
  obtain ⟨f_cut_in, D_cut_in⟩ := d_cut_in X G D
  obtain ⟨f_cut, D_cut⟩ := d_cut X G D
  obtain ⟨f_tied, D_tied⟩ := d_tied X G D
  obtain ⟨f_left, D_left⟩ := d_left X G D
  obtain ⟨f_taken_out, D_taken_out⟩ := d_taken_out X G D
  obtain ⟨f_needless_friends, D_needless_friends⟩ := d_needless_friends X G D
  obtain ⟨f_needless_in, D_needless_in⟩ := d_needless_in X G D
  obtain ⟨f_needless_people, D_needless_people⟩ := d_needless_people X G D
  obtain ⟨f_only_needed, D_only_needed⟩ := d_only_needed X G D
  obtain ⟨f_joined, D_joined⟩ := d_joined X G D
  obtain ⟨f_thinned, D_thinned⟩ := d_thinned X G D
  obtain ⟨f_is_thin, D_is_thin⟩ := d_is_thin X G D
  obtain ⟨f_same_answers, D_same_answers⟩ := d_same_answers X G D
  obtain ⟨f_L_taken, D_L_taken⟩ := d_L_taken X G D
  obtain ⟨f_L_alike, D_L_alike⟩ := d_L_alike X G D
  obtain ⟨f_L_net, D_L_net⟩ := d_L_net X G D
  obtain ⟨f_L_bits, D_L_bits⟩ := d_L_bits X G D
  obtain ⟨f_L_end, D_L_end⟩ := d_L_end X G D
  obtain ⟨f_L_paper, D_L_paper⟩ := d_L_paper X G D
  obtain ⟨f_L_answers, D_L_answers⟩ := d_L_answers X G D
  obtain ⟨f_L_told, D_L_told⟩ := d_L_told X G D
  obtain ⟨f_L_left, D_L_left⟩ := d_L_left X G D
  obtain ⟨f_L_cut, D_L_cut⟩ := d_L_cut X G D
  obtain ⟨f_L_upper, D_L_upper⟩ := d_L_upper X G D
  obtain ⟨f_L_rest, D_L_rest⟩ := d_L_rest X G D
  obtain ⟨f_Law, D_Law⟩ := d_Law X G D
  have e := hfa.symm.trans D_Law.g
  have e' : fa = He.fAd K ("law", none) := by
    have z := Option.some.inj e
    exact Value.ref.inj z
  subst e'
  have M := mg_of X G D
  have Z := nm_of X G D
  have Z2 := told_of X G D c.more
  have mem : (("_law_rest", none) : He.Defn) ∈ Hd.tf := List.mem_cons_self
  have bl := FunD.bindsA (ps := ["_law_script"]) D_Law.F fun _ _ _ _ _ _ us hl => match us, hl with | [_], _ => rfl
  refine ⟨f_Law, [He.cT K ("_law_rest", none)], spLaw K (He.cT K ("_law_rest", none)).2, fun p hp => ?_, fun p hp => ?_, fun p hp => ?_, fun s v => bl s [v] rfl, fun H a ns hl _ hH hS => ⟨a, ns, rfl, hS, fun p hp => ?_, fun _ => rfl⟩, fun base _ _ hTB => ?_⟩
  · rw [List.mem_singleton.mp hp]; exact c.empty _ mem
  · rw [List.mem_singleton.mp hp]; exact c.out _ mem
  · rw [List.mem_singleton.mp hp]; exact PySem.W.codeHd_of_K X (c.hd _ mem)
  · rw [List.mem_singleton.mp hp]; exact LamX.TabS.nil (hH _ (List.mem_singleton.mpr rfl))
  have hInt := mkHas D_is_integer.F (w_is_integer (P := PySem.Challenge.rw_standgates_k12_whole_smaller_nets.prog) (w := w) (base := base) M D_is_integer.F) D_is_integer.g D_is_integer.b
  have hIn := mkHas D_is_in.F (w_is_in (P := PySem.Challenge.rw_standgates_k12_whole_smaller_nets.prog) (w := w) (base := base) M hInt D_is_in.F) D_is_in.g D_is_in.b
  have hList := mkHas D_is_list.F (w_is_list (P := PySem.Challenge.rw_standgates_k12_whole_smaller_nets.prog) (w := w) (base := base) M D_is_list.F) D_is_list.g D_is_list.b
  have hNet := mkHas D_need_net.F (w_need_net (P := PySem.Challenge.rw_standgates_k12_whole_smaller_nets.prog) (w := w) (base := base) M hList hIn D_need_net.F) D_need_net.g D_need_net.b
  have hSize := mkHas D_size_of.F (w_size_of (P := PySem.Challenge.rw_standgates_k12_whole_smaller_nets.prog) (w := w) (base := base) M D_size_of.F) D_size_of.g D_size_of.b
  have hPer := mkHas D_need_person.F (w_need_person (P := PySem.Challenge.rw_standgates_k12_whole_smaller_nets.prog) (w := w) (base := base) M hIn hSize D_need_person.F) D_need_person.g D_need_person.b
  have hAns := mkHas D_need_answers.F (w_need_answers (P := PySem.Challenge.rw_standgates_k12_whole_smaller_nets.prog) (w := w) (base := base) M hList hIn hSize D_need_answers.F) D_need_answers.g D_need_answers.b
  have hFr := mkHas D_friends_in.F (w_friends_in (P := PySem.Challenge.rw_standgates_k12_whole_smaller_nets.prog) (w := w) (base := base) M D_friends_in.F) D_friends_in.g D_friends_in.b
  have hBits := mkHas D_all_bits.F (w_all_bits (P := PySem.Challenge.rw_standgates_k12_whole_smaller_nets.prog) (w := w) (base := base) M D_all_bits.F) D_all_bits.g D_all_bits.b
  have hUp := mkHas D_uppers_in.F (w_uppers_in (P := PySem.Challenge.rw_standgates_k12_whole_smaller_nets.prog) (w := w) (base := base) M hSize hFr D_uppers_in.F) D_uppers_in.g D_uppers_in.b
  have hStand := mkHas D_standing_in.F (w_standing_in (P := PySem.Challenge.rw_standgates_k12_whole_smaller_nets.prog) (w := w) (base := base) M D_standing_in.F) D_standing_in.g D_standing_in.b
  have hPaper := mkHas D_paper_in.F (w_paper_in (P := PySem.Challenge.rw_standgates_k12_whole_smaller_nets.prog) (w := w) (base := base) M hStand hBits hSize D_paper_in.F) D_paper_in.g D_paper_in.b
  have hTabs := mkHas D_tables_of.F (w_tables_of (P := PySem.Challenge.rw_standgates_k12_whole_smaller_nets.prog) (w := w) (base := base) M hPaper D_tables_of.F) D_tables_of.g D_tables_of.b
  have hCutIn := mkHas D_cut_in.F (w_cut_in (P := PySem.Challenge.rw_standgates_k12_whole_smaller_nets.prog) (w := w) (base := base) M D_cut_in.F) D_cut_in.g D_cut_in.b
  have hCut := mkHasX D_cut.F (w_cut (P := PySem.Challenge.rw_standgates_k12_whole_smaller_nets.prog) (w := w) (base := base) M Z hNet hPer hFr hCutIn D_cut.F) D_cut.g D_cut.b
  have hTied := mkHasX D_tied.F (w_tied (P := PySem.Challenge.rw_standgates_k12_whole_smaller_nets.prog) (w := w) (base := base) M Z hNet hPer hFr D_tied.F) D_tied.g D_tied.b
  have hLeft := mkHas D_left.F (w_left (P := PySem.Challenge.rw_standgates_k12_whole_smaller_nets.prog) (w := w) (base := base) M hFr D_left.F) D_left.g D_left.b
  have hOut := mkHas D_taken_out.F (w_taken_out (P := PySem.Challenge.rw_standgates_k12_whole_smaller_nets.prog) (w := w) (base := base) M hNet hPer hSize hLeft D_taken_out.F) D_taken_out.g D_taken_out.b
  have hNI := mkHas D_needless_in.F (w_needless_in (P := PySem.Challenge.rw_standgates_k12_whole_smaller_nets.prog) (w := w) (base := base) M hTabs hSize hFr hCutIn D_needless_in.F) D_needless_in.g D_needless_in.b
  have hNF := mkHas D_needless_friends.F (w_needless_friends (P := PySem.Challenge.rw_standgates_k12_whole_smaller_nets.prog) (w := w) (base := base) M hNet hAns hNI D_needless_friends.F) D_needless_friends.g D_needless_friends.b
  have hNP := mkHas D_needless_people.F (w_needless_people (P := PySem.Challenge.rw_standgates_k12_whole_smaller_nets.prog) (w := w) (base := base) M hNet hAns hTabs hSize hLeft D_needless_people.F) D_needless_people.g D_needless_people.b
  have hNeeded := mkHas D_only_needed.F (w_only_needed (P := PySem.Challenge.rw_standgates_k12_whole_smaller_nets.prog) (w := w) (base := base) M hNet hAns hUp hLeft D_only_needed.F) D_only_needed.g D_only_needed.b
  have hJoined := mkHas D_joined.F (w_joined (P := PySem.Challenge.rw_standgates_k12_whole_smaller_nets.prog) (w := w) (base := base) M hNet hAns hPaper hFr D_joined.F) D_joined.g D_joined.b
  have hThinned := mkHas D_thinned.F (w_thinned (P := PySem.Challenge.rw_standgates_k12_whole_smaller_nets.prog) (w := w) (base := base) M hNet hAns hUp hLeft hNI hCutIn D_thinned.F) D_thinned.g D_thinned.b
  have hThin := mkHas D_is_thin.F (w_is_thin (P := PySem.Challenge.rw_standgates_k12_whole_smaller_nets.prog) (w := w) (base := base) M hNet hAns hNI hUp hSize D_is_thin.F) D_is_thin.g D_is_thin.b
  have hSame := mkHas D_same_answers.F (w_same_answers (P := PySem.Challenge.rw_standgates_k12_whole_smaller_nets.prog) (w := w) (base := base) M hNet hAns hTabs D_same_answers.F) D_same_answers.g D_same_answers.b
  have hTk := mkHas D_L_taken.F (w_L_taken (P := PySem.Challenge.rw_standgates_k12_whole_smaller_nets.prog) (w := w) (base := base) M D_L_taken.F) D_L_taken.g D_L_taken.b
  have hLnet := mkHas D_L_net.F (w_L_net (P := PySem.Challenge.rw_standgates_k12_whole_smaller_nets.prog) (w := w) (base := base) M hTk D_L_net.F) D_L_net.g D_L_net.b
  have hLbits := mkHas D_L_bits.F (w_L_bits (P := PySem.Challenge.rw_standgates_k12_whole_smaller_nets.prog) (w := w) (base := base) M D_L_bits.F) D_L_bits.g D_L_bits.b
  have hLend := mkHas D_L_end.F (w_L_end (P := PySem.Challenge.rw_standgates_k12_whole_smaller_nets.prog) (w := w) (base := base) M D_L_end.F) D_L_end.g D_L_end.b
  have hLpaper := mkHas D_L_paper.F (w_L_paper (P := PySem.Challenge.rw_standgates_k12_whole_smaller_nets.prog) (w := w) (base := base) M hLend hLbits D_L_paper.F) D_L_paper.g D_L_paper.b
  have hLans := mkHas D_L_answers.F (w_L_answers (P := PySem.Challenge.rw_standgates_k12_whole_smaller_nets.prog) (w := w) (base := base) M hTk D_L_answers.F) D_L_answers.g D_L_answers.b
  have hLleft := mkHas D_L_left.F (w_L_left (P := PySem.Challenge.rw_standgates_k12_whole_smaller_nets.prog) (w := w) (base := base) M D_L_left.F) D_L_left.g D_L_left.b
  have hLcut := mkHas D_L_cut.F (w_L_cut (P := PySem.Challenge.rw_standgates_k12_whole_smaller_nets.prog) (w := w) (base := base) M D_L_cut.F) D_L_cut.g D_L_cut.b
  have hLup := mkHas D_L_upper.F (w_L_upper (P := PySem.Challenge.rw_standgates_k12_whole_smaller_nets.prog) (w := w) (base := base) M D_L_upper.F) D_L_upper.g D_L_upper.b
  have alk := w_L_alike (P := PySem.Challenge.rw_standgates_k12_whole_smaller_nets.prog) (w := w) (base := base) M D_L_alike.F fun k sp ok => mkHas D_L_alike.F ok D_L_alike.g D_L_alike.b
  have hAl4 := mkHas D_L_alike.F (alk 3) D_L_alike.g D_L_alike.b
  have hAl6 := mkHas D_L_alike.F (alk 5) D_L_alike.g D_L_alike.b
  have hRest := mkHas D_L_rest.F (w_L_rest (P := PySem.Challenge.rw_standgates_k12_whole_smaller_nets.prog) (w := w) (base := base) M Z2 D_L_told.F D_L_told.g D_L_told.b hTk hCut hTied hAl4 hLcut hOut hLleft (hTB _ (List.mem_singleton.mpr rfl)) D_L_rest.F (code_of D_L_rest.F)) D_L_rest.g D_L_rest.b
  exact w_Law M ⟨hLpaper, hLcut, hLleft, hLup, hAl6, hNF, hNP, hThin, hNeeded, hThinned, hJoined, hSame⟩ hLnet hLans hRest D_Law.F
end Wk
end

section
set_option maxHeartbeats 0
open PySem PySem.W PySem.Calls PyProof.Rows
theorem PySem.Challenge.cw_standgates_k12_whole_smaller_nets_holds : PySem.Challenge.rw_standgates_k12_whole_smaller_nets.Holds := by
  w_on; o_law
  refine HandSHeadRun.head_any (r := OpenLaw.row PySem.Challenge.rw_standgates_k12_whole_smaller_nets) (q := view (OpenLaw.row PySem.Challenge.rw_standgates_k12_whole_smaller_nets).prog [52]) (H := Hd.hk) (ob := Hd.ob) (M := 4000) (loose := Hd.loose) (d := HandSHeadRun.topDef (OpenLaw.row PySem.Challenge.rw_standgates_k12_whole_smaller_nets).prog 52) (kwd := []) Hd.ob_eq
    (by kernel_rfl) (fun s => by kernel_rfl) Hd.run (by kernel_rfl) (by kernel_rfl) (by kernel_rfl) (by rfl) (by first | assumption | decide +kernel) (by decide +kernel) ⟨rfl, rfl, rfl, rfl, rfl, by decide +kernel⟩ ?hw ?hc
  case hw => w_witness2
  case hc =>
    refine LamX.walk_ofTsE (l := PySem.Challenge.rw_standgates_k12_whole_smaller_nets) (n := 63) (k := 8) (x := "_law_script") (CX := fun _ => L2.CX0) rfl (by decide) (by kernel_rfl) ⟨rfl, by decide, by decide⟩ ?F (fun _ _ _ _ _ z => z)
    intro w mg fa h Y G hmg0
    obtain ⟨K, KX, c⟩ := Y
    have hmg : mg ("law" : PySem.Str) = some (.ref fa) := by
      have e : (HandSHeadRun.topDef (OpenLaw.row PySem.Challenge.rw_standgates_k12_whole_smaller_nets).prog 52).name = ("law" : PySem.Str) := by kernel_rfl
      rw [← e]
      exact hmg0
    exact ⟨K, KX, Wk.facts KX G hmg c⟩
end
