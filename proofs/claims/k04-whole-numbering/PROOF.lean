import PyProof.Rows.All
import Wide.All
import OpenK.AllK
import Wide.FinOn
import HandS.ForMost
import HandS.Conv
import HandS.RepeatKit
import HandS.TupSets
import HandS.SetBool
import HandS.Gcd
import HandS.WideBits
import HandS.IsInst
import HandS.Deep
import HandS.SortInts
import HandS.Evl
import KE.KMathGC
import KE.KDictKeyed
import KE.KDictDisplayH
import HandS.Wide
import KE.Datum
import KE.KEqDeep
import HandS.Sort
import HandS.Zip
import HandS.SetKeys
import KE.KDictList
import KE.KIndexOf
import HandS.ForSpec
import HandS.ExcIs
import HandS.ExcField
import HandS.ExcCtx
import HandS.HotCalls
import HandS.Defaults
import KE.KExcIs
import KE.DataCmp
import KE.SortData
import KE.KExcSuper
import HandS.Ends
import HandS.ExcSuper
import PySem.Challenge.RW_peermend_k04_whole_numbering
set_option Elab.async false
set_option linter.all false
set_option maxRecDepth 100000
set_option maxHeartbeats 4000000
section
namespace K4
/-- choose -/
def ch : Nat → Nat → Nat
  | _, 0 => 1
  | 0, _ + 1 => 0
  | n + 1, k + 1 => ch n k + ch n (k + 1)
theorem ch_zero (n : Nat) : ch n 0 = 1 := by cases n <;> rfl
theorem ch_big : ∀ (n k : Nat), n < k → ch n k = 0
  | _, 0, h => by omega
  | 0, _ + 1, _ => rfl
  | n + 1, k + 1, h => by
    show ch n k + ch n (k + 1) = 0
    rw [ch_big n k (by omega), ch_big n (k + 1) (by omega)]
/-- how many pieces on k given records -/
def F (k : Nat) : Nat := [0, 1, 3, 12, 42].getD k 0
/-- the totals' list, as the program makes it -/
def blkL (found : List Nat) (n k : Nat) : Nat := ch (n - 1) (k - 1) * F k * found.getD (n - k) 0
def sumBlk (found : List Nat) (n : Nat) : Nat := ((List.range (min n 4)).map fun j => blkL found n (j + 1)).sum
def tot : Nat → List Nat
  | 0 => [1]
  | n + 1 => tot n ++ [sumBlk (tot n) (n + 1)]
def T (n : Nat) : Nat := (tot n).getD n 0
theorem tot_len : ∀ n, (tot n).length = n + 1
  | 0 => rfl
  | n + 1 => by
    show (tot n ++ _).length = _
    rw [List.length_append, tot_len n]
    rfl
theorem tot_get : ∀ (n i : Nat), i ≤ n → (tot n).getD i 0 = T i
  | 0, i, h => by
    obtain rfl : i = 0 := by omega
    rfl
  | n + 1, i, h => by
    by_cases c : i = n + 1
    · subst c; rfl
    · have e : (tot (n + 1)).getD i 0 = (tot n).getD i 0 := by
        show (tot n ++ _).getD i 0 = _
        rw [List.getD_eq_getElem?_getD, List.getElem?_append_left (by rw [tot_len]; omega), ← List.getD_eq_getElem?_getD]
      rw [e, tot_get n i (by omega)]
def blk (n k : Nat) : Nat := ch (n - 1) (k - 1) * F k * T (n - k)
theorem blkL_eq {m n k : Nat} (h : n ≤ m + k) : blkL (tot m) n k = blk n k := by
  unfold blkL blk
  rw [tot_get m (n - k) (by omega)]
theorem blk_big {n k : Nat} (h : n < k) (hn : 0 < n) : blk n k = 0 := by
  unfold blk
  rw [ch_big _ _ (by omega)]
  simp
theorem T_succ (n : Nat) : T (n + 1) = sumBlk (tot n) (n + 1) := by
  show (tot n ++ [sumBlk (tot n) (n + 1)]).getD (n + 1) 0 = _
  have e := tot_len n
  rw [List.getD_eq_getElem?_getD, List.getElem?_append_right (by omega), e]
  simp
theorem T_eq {n : Nat} (hn : 0 < n) : T n = blk n 1 + blk n 2 + blk n 3 + blk n 4 := by
  obtain ⟨m, rfl⟩ : ∃ m, n = m + 1 := ⟨n - 1, by omega⟩
  rw [T_succ]
  unfold sumBlk
  have q : ∀ k, 1 ≤ k → blkL (tot m) (m + 1) k = blk (m + 1) k := fun k hk => blkL_eq (by omega)
  by_cases c3 : 3 ≤ m
  · have e : min (m + 1) 4 = 4 := by omega
    rw [e]
    simp [List.range_succ, q]
    omega
  · rcases (by omega : m = 0 ∨ m = 1 ∨ m = 2) with rfl | rfl | rfl
    all_goals simp [List.range_succ, q, blk_big]
    all_goals omega
theorem T_zero : T 0 = 1 := rfl
theorem T_pos : ∀ n, 0 < T n
  | 0 => by decide
  | n + 1 => by
    rw [T_eq (by omega)]
    have e : blk (n + 1) 1 = T n := by
      unfold blk
      rw [ch_zero]
      simp [F]
    have := T_pos n
    omega

/-! the sets -/
/-- the set with a number among those of r of the candidates -/
def subL : List Nat → Nat → Nat → List Nat
  | _, 0, _ => []
  | [], _ + 1, _ => []
  | x :: xs, r + 1, num => if num < ch xs.length r then x :: subL xs r num else subL xs (r + 1) (num - ch xs.length r)
/-- how many sets come before -/
def rankL : List Nat → List Nat → Nat
  | _, [] => 0
  | [], _ :: _ => 0
  | x :: xs, y :: ys => if x = y then rankL xs ys else ch xs.length ys.length + rankL xs (y :: ys)
theorem subL_zero (xs : List Nat) (num : Nat) : subL xs 0 num = [] := by cases xs <;> rfl
theorem rankL_nil (xs : List Nat) : rankL xs [] = 0 := by cases xs <;> rfl
theorem subL_ok : ∀ (xs : List Nat) (r num : Nat), num < ch xs.length r → (subL xs r num).length = r ∧ (subL xs r num).Sublist xs
  | xs, 0, num, h => by rw [subL_zero]; exact ⟨rfl, List.nil_sublist _⟩
  | [], r + 1, num, h => by simp [ch] at h
  | x :: xs, r + 1, num, h => by
    unfold subL
    have e : ch (x :: xs).length (r + 1) = ch xs.length r + ch xs.length (r + 1) := rfl
    by_cases c : num < ch xs.length r
    · rw [if_pos c]
      obtain ⟨h1, h2⟩ := subL_ok xs r num c
      exact ⟨by rw [List.length_cons, h1], h2.cons_cons x⟩
    · rw [if_neg c]
      obtain ⟨h1, h2⟩ := subL_ok xs (r + 1) (num - ch xs.length r) (by omega)
      exact ⟨h1, h2.cons x⟩
theorem rank_sub : ∀ (xs : List Nat) (r num : Nat), xs.Nodup → num < ch xs.length r → rankL xs (subL xs r num) = num
  | xs, 0, num, hn, h => by
    rw [subL_zero, rankL_nil]
    rw [ch_zero] at h
    omega
  | [], r + 1, num, hn, h => by simp [ch] at h
  | x :: xs, r + 1, num, hn, h => by
    have e : ch (x :: xs).length (r + 1) = ch xs.length r + ch xs.length (r + 1) := rfl
    obtain ⟨hx, hn'⟩ := List.nodup_cons.mp hn
    unfold subL
    by_cases c : num < ch xs.length r
    · rw [if_pos c]
      show (if x = x then rankL xs (subL xs r num) else _) = num
      rw [if_pos rfl]
      exact rank_sub xs r num hn' c
    · rw [if_neg c]
      have hlt : num - ch xs.length r < ch xs.length (r + 1) := by omega
      obtain ⟨h1, h2⟩ := subL_ok xs (r + 1) (num - ch xs.length r) hlt
      have ih := rank_sub xs (r + 1) (num - ch xs.length r) hn' hlt
      generalize subL xs (r + 1) (num - ch xs.length r) = l at h1 h2 ih ⊢
      cases l with
      | nil => cases h1
      | cons y ys =>
        have hy : y ∈ xs := h2.subset List.mem_cons_self
        have hne : x ≠ y := fun z => hx (z ▸ hy)
        show (if x = y then _ else ch xs.length ys.length + rankL xs (y :: ys)) = num
        rw [if_neg hne, ih]
        have : ys.length = r := by simpa using h1
        rw [this]
        omega
theorem rank_lt : ∀ (xs ys : List Nat), xs.Nodup → ys.Sublist xs → rankL xs ys < ch xs.length ys.length
  | xs, [], hn, h => by rw [rankL_nil, List.length_nil, ch_zero]; omega
  | [], y :: ys, hn, h => by cases h
  | x :: xs, y :: ys, hn, h => by
    have e : ch (x :: xs).length (y :: ys).length = ch xs.length ys.length + ch xs.length (y :: ys).length := rfl
    obtain ⟨hx, hn'⟩ := List.nodup_cons.mp hn
    unfold rankL
    by_cases c : x = y
    · subst c
      rw [if_pos rfl]
      have := rank_lt xs ys hn' (List.cons_sublist_cons.mp h)
      omega
    · rw [if_neg c]
      have h' : (y :: ys).Sublist xs := by
        cases h with
        | cons _ h => exact h
        | cons_cons _ h => exact absurd rfl c
      have := rank_lt xs (y :: ys) hn' h'
      omega
theorem sub_rank : ∀ (xs ys : List Nat), xs.Nodup → ys.Sublist xs → subL xs ys.length (rankL xs ys) = ys
  | xs, [], hn, h => subL_zero _ _
  | [], y :: ys, hn, h => by cases h
  | x :: xs, y :: ys, hn, h => by
    obtain ⟨hx, hn'⟩ := List.nodup_cons.mp hn
    show (if rankL (x :: xs) (y :: ys) < ch xs.length ys.length then x :: subL xs ys.length (rankL (x :: xs) (y :: ys)) else subL xs (ys.length + 1) (rankL (x :: xs) (y :: ys) - ch xs.length ys.length)) = y :: ys
    have e : rankL (x :: xs) (y :: ys) = if x = y then rankL xs ys else ch xs.length ys.length + rankL xs (y :: ys) := rfl
    rw [e]
    by_cases c : x = y
    · subst c
      have h' := List.cons_sublist_cons.mp h
      rw [if_pos rfl, if_pos (rank_lt xs ys hn' h'), sub_rank xs ys hn' h']
    · rw [if_neg c, if_neg (by omega), Nat.add_sub_cancel_left]
      have h' : (y :: ys).Sublist xs := by
        cases h with
        | cons _ h => exact h
        | cons_cons _ h => exact absurd rfl c
      exact sub_rank xs (y :: ys) hn' h'
/-- lists of numbers, as Python orders them -/
def ltL : List Nat → List Nat → Bool
  | _, [] => false
  | [], _ :: _ => true
  | x :: xs, y :: ys => decide (x < y) || (decide (x = y) && ltL xs ys)
theorem ltL_cons {x y : Nat} {xs ys : List Nat} : ltL (x :: xs) (y :: ys) = true ↔ x < y ∨ (x = y ∧ ltL xs ys = true) := by
  simp [ltL]
theorem sub_mono : ∀ (xs : List Nat) (r a b : Nat), xs.Pairwise (· < ·) → a < b → b < ch xs.length r → ltL (subL xs r a) (subL xs r b) = true
  | xs, 0, a, b, hp, hab, h => by rw [ch_zero] at h; omega
  | [], r + 1, a, b, hp, hab, h => by simp [ch] at h
  | x :: xs, r + 1, a, b, hp, hab, h => by
    have e : ch (x :: xs).length (r + 1) = ch xs.length r + ch xs.length (r + 1) := rfl
    obtain ⟨hx, hp'⟩ := List.pairwise_cons.mp hp
    unfold subL
    by_cases cb : b < ch xs.length r
    · rw [if_pos (show a < ch xs.length r by omega), if_pos cb, ltL_cons]
      exact .inr ⟨rfl, sub_mono xs r a b hp' hab cb⟩
    · rw [if_neg cb]
      have hlt : b - ch xs.length r < ch xs.length (r + 1) := by omega
      by_cases ca : a < ch xs.length r
      · rw [if_pos ca]
        obtain ⟨h1, h2⟩ := subL_ok xs (r + 1) (b - ch xs.length r) hlt
        generalize subL xs (r + 1) (b - ch xs.length r) = l at h1 h2 ⊢
        cases l with
        | nil => cases h1
        | cons y ys =>
          rw [ltL_cons]
          exact .inl (hx y (h2.subset List.mem_cons_self))
      · rw [if_neg ca]
        exact sub_mono xs (r + 1) _ _ hp' (by omega) hlt

/-! the first piece's size -/
def pick (n b : Nat) : Nat × Nat :=
  if b < blk n 1 then (1, b) else
  if b < blk n 1 + blk n 2 then (2, b - blk n 1) else
  if b < blk n 1 + blk n 2 + blk n 3 then (3, b - (blk n 1 + blk n 2)) else (4, b - (blk n 1 + blk n 2 + blk n 3))
/-- the blocks before size k -/
def pre (n k : Nat) : Nat := ((List.range (k - 1)).map fun j => blk n (j + 1)).sum
theorem pre_1 (n : Nat) : pre n 1 = 0 := rfl
theorem pre_2 (n : Nat) : pre n 2 = blk n 1 := by simp [pre, List.range_succ]
theorem pre_3 (n : Nat) : pre n 3 = blk n 1 + blk n 2 := by simp [pre, List.range_succ]
theorem pre_4 (n : Nat) : pre n 4 = blk n 1 + blk n 2 + blk n 3 := by simp [pre, List.range_succ]; omega
theorem pre_5 (n : Nat) : pre n 5 = blk n 1 + blk n 2 + blk n 3 + blk n 4 := by simp [pre, List.range_succ]; omega
theorem pick_ok {n b : Nat} (hn : 0 < n) (h : b < T n) : 1 ≤ (pick n b).1 ∧ (pick n b).1 ≤ 4 ∧ (pick n b).1 ≤ n ∧ (pick n b).2 < blk n (pick n b).1 ∧ b = pre n (pick n b).1 + (pick n b).2 := by
  rw [T_eq hn] at h
  have big : ∀ k, 0 < blk n k → k ≤ n := fun k hk => by
    rcases Nat.lt_or_ge n k with c | c
    · rw [blk_big c hn] at hk; omega
    · exact c
  unfold pick
  split
  · rename_i c
    exact ⟨by simp, by simp, hn, c, by rw [pre_1]; omega⟩
  · split
    · rename_i c1 c2
      exact ⟨by simp, by simp, big 2 (by omega), by dsimp only; omega, by dsimp only; rw [pre_2]; omega⟩
    · split
      · rename_i c1 c2 c3
        exact ⟨by simp, by simp, big 3 (by omega), by dsimp only; omega, by dsimp only; rw [pre_3]; omega⟩
      · rename_i c1 c2 c3
        exact ⟨by simp, by simp, big 4 (by omega), by dsimp only; omega, by dsimp only; rw [pre_4]; omega⟩
theorem pick_of {n k r : Nat} (h1 : 1 ≤ k) (h4 : k ≤ 4) (h : r < blk n k) : pick n (pre n k + r) = (k, r) := by
  unfold pick
  rcases (by omega : k = 1 ∨ k = 2 ∨ k = 3 ∨ k = 4) with rfl | rfl | rfl | rfl
  · rw [pre_1, if_pos (by omega)]; simp
  · rw [pre_2, if_neg (by omega), if_pos (by omega)]; simp
  · rw [pre_3, if_neg (by omega), if_neg (by omega), if_pos (by omega)]; simp
  · rw [pre_4, if_neg (by omega), if_neg (by omega), if_neg (by omega)]; simp
theorem pre_mono {n j k : Nat} (h : j < k) (hj : 1 ≤ j) (hk : k ≤ 4) : pre n j + blk n j ≤ pre n k := by
  rcases (by omega : (j = 1 ∧ k = 2) ∨ (j = 1 ∧ k = 3) ∨ (j = 1 ∧ k = 4) ∨ (j = 2 ∧ k = 3) ∨ (j = 2 ∧ k = 4) ∨ (j = 3 ∧ k = 4)) with ⟨rfl, rfl⟩ | ⟨rfl, rfl⟩ | ⟨rfl, rfl⟩ | ⟨rfl, rfl⟩ | ⟨rfl, rfl⟩ | ⟨rfl, rfl⟩
  all_goals simp only [pre_1, pre_2, pre_3, pre_4]
  all_goals omega
theorem pre_top {n k : Nat} (h1 : 1 ≤ k) (h4 : k ≤ 4) (hn : 0 < n) : pre n k + blk n k ≤ T n := by
  rw [T_eq hn]
  rcases (by omega : k = 1 ∨ k = 2 ∨ k = 3 ∨ k = 4) with rfl | rfl | rfl | rfl
  all_goals simp only [pre_1, pre_2, pre_3, pre_4]
  all_goals omega

/-! the numbering, plainly: pieces as (records, number of the pattern) -/
abbrev Pc := List Nat × Nat
def out (xs ys : List Nat) : List Nat := xs.filter fun x => decide (x ∉ ys)
/-- the pieces of a number -/
def dec : Nat → List Nat → Nat → List Pc
  | 0, _, _ => []
  | _ + 1, [], _ => []
  | f + 1, x :: xs, b =>
    let p := pick (xs.length + 1) b
    let m := T (xs.length + 1 - p.1)
    let ys := subL xs (p.1 - 1) (p.2 / m / F p.1)
    (x :: ys, p.2 / m % F p.1) :: dec f (out xs ys) (p.2 % m)
/-- the number of pieces -/
def enc : List Nat → List Pc → Nat
  | _, [] => 0
  | left, (recs, pl) :: rest =>
    pre left.length recs.length + ((rankL left.tail recs.tail * F recs.length + pl) * T (left.length - recs.length) + enc (out left recs) rest)
/-- pieces that make up the records left -/
def Val : List Nat → List Pc → Prop
  | [], ps => ps = []
  | _ :: _, [] => False
  | x :: xs, (recs, pl) :: rest => ∃ ys, recs = x :: ys ∧ ys.Sublist xs ∧ ys.length ≤ 3 ∧ pl < F recs.length ∧ Val (out xs ys) rest
termination_by _ ps => ps.length
theorem out_sub (xs ys : List Nat) : (out xs ys).Sublist xs := List.filter_sublist
theorem out_nodup {xs ys : List Nat} (h : xs.Nodup) : (out xs ys).Nodup := List.Sublist.nodup (out_sub xs ys) h
theorem out_len {xs : List Nat} : ∀ {ys : List Nat}, ys.Sublist xs → xs.Nodup → (out xs ys).length = xs.length - ys.length := by
  intro ys h hn
  induction h with
  | slnil => rfl
  | @cons l1 l2 a h ih =>
    obtain ⟨ha, hn'⟩ := List.nodup_cons.mp hn
    have hna : a ∉ l1 := fun z => ha (h.subset z)
    have e : out (a :: l2) l1 = a :: out l2 l1 := by
      unfold out
      rw [List.filter_cons_of_pos (by simpa using hna)]
    have := h.length_le
    rw [e, List.length_cons, ih hn', List.length_cons]
    omega
  | @cons_cons l1 l2 a h ih =>
    obtain ⟨ha, hn'⟩ := List.nodup_cons.mp hn
    have e : out (a :: l2) (a :: l1) = out l2 l1 := by
      unfold out
      rw [List.filter_cons_of_neg (by simp)]
      refine List.filter_congr fun x hx => ?_
      have hxa : x ≠ a := fun z => ha (z ▸ hx)
      simp [hxa]
    rw [e, ih hn', List.length_cons, List.length_cons]
    omega
theorem out_cons {x : Nat} {xs ys : List Nat} (hn : (x :: xs).Nodup) : out (x :: xs) (x :: ys) = out xs ys := by
  obtain ⟨ha, hn'⟩ := List.nodup_cons.mp hn
  unfold out
  rw [List.filter_cons_of_neg (by simp)]
  refine List.filter_congr fun y hy => ?_
  have hxa : y ≠ x := fun z => ha (z ▸ hy)
  simp [hxa]
theorem F_pos {k : Nat} (h1 : 1 ≤ k) (h4 : k ≤ 4) : 0 < F k := by
  rcases (by omega : k = 1 ∨ k = 2 ∨ k = 3 ∨ k = 4) with rfl | rfl | rfl | rfl <;> decide
/-- what a number's first piece is -/
structure First (xs : List Nat) (b : Nat) (k r : Nat) : Prop where
  k1 : 1 ≤ k
  k4 : k ≤ 4
  kn : k ≤ xs.length + 1
  lt : r < blk (xs.length + 1) k
  eq : b = pre (xs.length + 1) k + r
  set : r / T (xs.length + 1 - k) / F k < ch xs.length (k - 1)
  pat : r / T (xs.length + 1 - k) % F k < F k
  rest : r % T (xs.length + 1 - k) < T (xs.length + 1 - k)
theorem first_ok {xs : List Nat} {b : Nat} (h : b < T (xs.length + 1)) : First xs b (pick (xs.length + 1) b).1 (pick (xs.length + 1) b).2 := by
  obtain ⟨h1, h2, h3, h4, h5⟩ := pick_ok (by omega) h
  generalize pick (xs.length + 1) b = p at h1 h2 h3 h4 h5
  obtain ⟨k, r⟩ := p
  dsimp only at h1 h2 h3 h4 h5 ⊢
  have hF := F_pos h1 h2
  have hT := T_pos (xs.length + 1 - k)
  refine ⟨h1, h2, h3, h4, h5, ?_, Nat.mod_lt _ hF, Nat.mod_lt _ hT⟩
  rw [Nat.div_lt_iff_lt_mul hF, Nat.div_lt_iff_lt_mul hT]
  exact h4
theorem Val_nil {ps : List Pc} : Val [] ps ↔ ps = [] := by rw [Val]
theorem Val_cons {x : Nat} {xs recs : List Nat} {pl : Nat} {rest : List Pc} : Val (x :: xs) ((recs, pl) :: rest) ↔ ∃ ys, recs = x :: ys ∧ ys.Sublist xs ∧ ys.length ≤ 3 ∧ pl < F recs.length ∧ Val (out xs ys) rest := by rw [Val]
theorem Val_none {x : Nat} {xs : List Nat} : ¬ Val (x :: xs) [] := by rw [Val]; exact id
/-- a number's pieces are pieces, and their number is the number -/
theorem dec_ok : ∀ (f : Nat) (left : List Nat) (b : Nat), left.length ≤ f → left.Nodup → b < T left.length → Val left (dec f left b) ∧ enc left (dec f left b) = b
  | 0, left, b, hf, hn, h => by
    obtain rfl : left = [] := List.length_eq_zero_iff.mp (by omega)
    refine ⟨by rw [Val_nil]; rfl, ?_⟩
    rw [List.length_nil, T_zero] at h
    show 0 = b
    omega
  | f + 1, [], b, hf, hn, h => by
    refine ⟨by rw [Val_nil]; rfl, ?_⟩
    rw [List.length_nil, T_zero] at h
    show 0 = b
    omega
  | f + 1, x :: xs, b, hf, hn, h => by
    have P := first_ok (xs := xs) h
    obtain ⟨hx, hn'⟩ := List.nodup_cons.mp hn
    unfold dec
    generalize pick (xs.length + 1) b = p at P
    obtain ⟨k, r⟩ := p
    dsimp only at P ⊢
    obtain ⟨s1, s2⟩ := subL_ok _ _ _ P.set
    have rk := rank_sub _ _ _ hn' P.set
    generalize hys : subL xs (k - 1) (r / T (xs.length + 1 - k) / F k) = ys at s1 s2 rk ⊢
    have k1 := P.k1
    have k4 := P.k4
    have kn := P.kn
    have hk : ys.length + 1 = k := by omega
    have hlen : (out xs ys).length = xs.length + 1 - k := by
      rw [out_len s2 hn']
      omega
    rw [List.length_cons] at hf
    obtain ⟨v, e⟩ := dec_ok f (out xs ys) (r % T (xs.length + 1 - k)) (by omega) (out_nodup hn') (by rw [hlen]; exact P.rest)
    refine ⟨?_, ?_⟩
    · rw [Val_cons]
      refine ⟨ys, rfl, s2, by omega, ?_, v⟩
      rw [List.length_cons, hk]
      exact P.pat
    · show pre (x :: xs).length (x :: ys).length + ((rankL xs ys * F (x :: ys).length + _) * T ((x :: xs).length - (x :: ys).length) + enc (out (x :: xs) (x :: ys)) _) = b
      rw [out_cons hn, List.length_cons, List.length_cons, hk, e, rk, P.eq]
      have d1 := Nat.div_add_mod r (T (xs.length + 1 - k))
      have d2 := Nat.div_add_mod (r / T (xs.length + 1 - k)) (F k)
      rw [Nat.mul_comm (_ / F k), d2, Nat.mul_comm (_ / T _), d1]
theorem enc_lt : ∀ (ps : List Pc) (left : List Nat), left.Nodup → Val left ps → enc left ps < T left.length
  | [], left, hn, h => T_pos _
  | (recs, pl) :: rest, [], hn, h => by rw [Val_nil] at h; cases h
  | (recs, pl) :: rest, x :: xs, hn, h => by
    obtain ⟨hx, hn'⟩ := List.nodup_cons.mp hn
    obtain ⟨ys, rfl, hs, h3, hp, hv⟩ := Val_cons.mp h
    have ih := enc_lt rest (out xs ys) (out_nodup hn') hv
    have hl := hs.length_le
    have rk := rank_lt xs ys hn' hs
    rw [out_len hs hn'] at ih
    show pre (xs.length + 1) (ys.length + 1) + ((rankL xs ys * F (ys.length + 1) + pl) * T (xs.length + 1 - (ys.length + 1)) + enc (out (x :: xs) (x :: ys)) rest) < T (xs.length + 1)
    rw [out_cons hn]
    have hp : pl < F (ys.length + 1) := hp
    have top := pre_top (n := xs.length + 1) (k := ys.length + 1) (by omega) (by omega) (by omega)
    have b : (rankL xs ys * F (ys.length + 1) + pl) * T (xs.length + 1 - (ys.length + 1)) + T (xs.length + 1 - (ys.length + 1)) ≤ blk (xs.length + 1) (ys.length + 1) := by
      unfold blk
      rw [← Nat.succ_mul]
      refine Nat.mul_le_mul_right _ ?_
      have : (rankL xs ys + 1) * F (ys.length + 1) ≤ ch xs.length ys.length * F (ys.length + 1) := Nat.mul_le_mul_right _ rk
      rw [Nat.succ_mul] at this
      show rankL xs ys * F (ys.length + 1) + pl + 1 ≤ ch xs.length ys.length * F (ys.length + 1)
      omega
    have e : xs.length + 1 - (ys.length + 1) = xs.length - ys.length := by omega
    rw [e] at b ⊢
    omega
theorem dec_enc : ∀ (ps : List Pc) (f : Nat) (left : List Nat), left.length ≤ f → left.Nodup → Val left ps → dec f left (enc left ps) = ps
  | [], f, left, hf, hn, h => by
    cases left with
    | nil => cases f <;> rfl
    | cons x xs => exact absurd h Val_none
  | (recs, pl) :: rest, f, [], hf, hn, h => by rw [Val_nil] at h; cases h
  | (recs, pl) :: rest, 0, x :: xs, hf, hn, h => by simp at hf
  | (recs, pl) :: rest, f + 1, x :: xs, hf, hn, h => by
    have lt := enc_lt _ _ hn h
    obtain ⟨hx, hn'⟩ := List.nodup_cons.mp hn
    obtain ⟨ys, rfl, hs, h3, hp, hv⟩ := Val_cons.mp h
    have hl := hs.length_le
    have ih := dec_enc rest f (out xs ys) (by rw [out_len hs hn']; simp at hf; omega) (out_nodup hn') hv
    have il := enc_lt rest (out xs ys) (out_nodup hn') hv
    have rk := rank_lt xs ys hn' hs
    rw [out_len hs hn'] at il
    have e : xs.length + 1 - (ys.length + 1) = xs.length - ys.length := by omega
    have e0 : enc (x :: xs) ((x :: ys, pl) :: rest) = pre (xs.length + 1) (ys.length + 1) + ((rankL xs ys * F (ys.length + 1) + pl) * T (xs.length - ys.length) + enc (out xs ys) rest) := by
      show pre (xs.length + 1) (ys.length + 1) + ((rankL xs ys * F (ys.length + 1) + pl) * T (xs.length + 1 - (ys.length + 1)) + enc (out (x :: xs) (x :: ys)) rest) = _
      rw [out_cons hn, e]
    rw [e0]
    have hp : pl < F (ys.length + 1) := hp
    have hF : 0 < F (ys.length + 1) := by omega
    have hT := T_pos (xs.length - ys.length)
    have b : (rankL xs ys * F (ys.length + 1) + pl) * T (xs.length - ys.length) + enc (out xs ys) rest < blk (xs.length + 1) (ys.length + 1) := by
      unfold blk
      rw [e]
      have h1 : (rankL xs ys + 1) * F (ys.length + 1) ≤ ch xs.length ys.length * F (ys.length + 1) := Nat.mul_le_mul_right _ rk
      rw [Nat.succ_mul] at h1
      have h2 : (rankL xs ys * F (ys.length + 1) + pl + 1) * T (xs.length - ys.length) ≤ ch xs.length ys.length * F (ys.length + 1) * T (xs.length - ys.length) := Nat.mul_le_mul_right _ (by omega)
      rw [Nat.succ_mul] at h2
      show _ < ch xs.length ys.length * F (ys.length + 1) * T (xs.length - ys.length)
      omega
    unfold dec
    rw [pick_of (by omega) (by omega) b]
    dsimp only
    rw [e, Nat.add_sub_cancel]
    have q1 : ((rankL xs ys * F (ys.length + 1) + pl) * T (xs.length - ys.length) + enc (out xs ys) rest) / T (xs.length - ys.length) = rankL xs ys * F (ys.length + 1) + pl := by
      rw [Nat.mul_comm, Nat.mul_add_div hT, Nat.div_eq_of_lt il, Nat.add_zero]
    have q2 : ((rankL xs ys * F (ys.length + 1) + pl) * T (xs.length - ys.length) + enc (out xs ys) rest) % T (xs.length - ys.length) = enc (out xs ys) rest := by
      rw [Nat.mul_comm, Nat.mul_add_mod, Nat.mod_eq_of_lt il]
    have q3 : (rankL xs ys * F (ys.length + 1) + pl) / F (ys.length + 1) = rankL xs ys := by
      rw [Nat.mul_comm, Nat.mul_add_div hF, Nat.div_eq_of_lt hp, Nat.add_zero]
    have q4 : (rankL xs ys * F (ys.length + 1) + pl) % F (ys.length + 1) = pl := by
      rw [Nat.mul_comm, Nat.mul_add_mod, Nat.mod_eq_of_lt hp]
    rw [q1, q2, q3, q4, sub_rank xs ys hn' hs, ih]
end K4
end
section
namespace K4
/-! the patterns -/
def insL {α : Type} (x : α) : List α → List (List α)
  | [] => [[x]]
  | y :: ys => (x :: y :: ys) :: (insL x ys).map (y :: ·)
/-- the orders of a list, as itertools gives them: by the place of the first one -/
def arr : Nat → List Nat → List (List Nat)
  | 0, _ => [[]]
  | r + 1, xs => xs.flatMap fun x => (arr r (xs.filter fun y => decide (y ≠ x))).map (x :: ·)
def shp : List (List Nat) := [[0], [1, 0], [1, 1], [1, 2, 1], [1, 2, 2], [1, 2, 1, 2], [1, 2, 3, 2], [1, 2, 3, 0]]
def shpOf (k : Nat) : List (List Nat) := shp.filter fun f => decide (f.length = k)
def names (f recs : List Nat) : List Nat := (recs.zip f).foldl (fun ns p => ns.set p.1 (recs.getD p.2 0)) (List.replicate recs.length 0)
def insO (x : List Nat) : List (List Nat) → List (List Nat)
  | [] => [x]
  | y :: ys => if x = y then y :: ys else if ltL x y = true then x :: y :: ys else y :: insO x ys
/-- the patterns on k places, ascending -/
def pats (k : Nat) : List (List Nat) := ((shpOf k).flatMap fun f => (arr k (List.range k)).map (names f)).foldl (fun l x => insO x l) []
theorem pats_len1 : (pats 1).length = 1 := by decide +kernel
theorem pats_len2 : (pats 2).length = 3 := by decide +kernel
theorem pats_len3 : (pats 3).length = 12 := by decide +kernel
theorem pats_len4 : (pats 4).length = 42 := by decide +kernel
theorem pats_len {k : Nat} (h1 : 1 ≤ k) (h4 : k ≤ 4) : (pats k).length = F k := by
  rcases (by omega : k = 1 ∨ k = 2 ∨ k = 3 ∨ k = 4) with rfl | rfl | rfl | rfl
  · exact pats_len1
  · exact pats_len2
  · exact pats_len3
  · exact pats_len4
def pat (k pl : Nat) : List Nat := (pats k).getD pl []
theorem pats_all1 : ((pats 1).all fun p => decide (p.length = 1) && p.all fun i => decide (i < 1)) = true := by decide +kernel
theorem pats_all2 : ((pats 2).all fun p => decide (p.length = 2) && p.all fun i => decide (i < 2)) = true := by decide +kernel
theorem pats_all3 : ((pats 3).all fun p => decide (p.length = 3) && p.all fun i => decide (i < 3)) = true := by decide +kernel
theorem pats_all4 : ((pats 4).all fun p => decide (p.length = 4) && p.all fun i => decide (i < 4)) = true := by decide +kernel
theorem pats_all {k : Nat} (h1 : 1 ≤ k) (h4 : k ≤ 4) : ((pats k).all fun p => decide (p.length = k) && p.all fun i => decide (i < k)) = true := by
  rcases (by omega : k = 1 ∨ k = 2 ∨ k = 3 ∨ k = 4) with rfl | rfl | rfl | rfl
  · exact pats_all1
  · exact pats_all2
  · exact pats_all3
  · exact pats_all4
theorem pats_mem {k : Nat} {p : List Nat} (h1 : 1 ≤ k) (h4 : k ≤ 4) (h : p ∈ pats k) : p.length = k ∧ ∀ i ∈ p, i < k := by
  have := List.all_eq_true.mp (pats_all h1 h4) p h
  simpa using this
theorem pat_mem {k pl : Nat} (h1 : 1 ≤ k) (h4 : k ≤ 4) (h : pl < F k) : pat k pl ∈ pats k := by
  have hl : pl < (pats k).length := by rw [pats_len h1 h4]; exact h
  unfold pat
  rw [List.getD_eq_getElem?_getD, List.getElem?_eq_getElem hl]
  exact List.getElem_mem hl
theorem pat_get {k pl : Nat} (h1 : 1 ≤ k) (h4 : k ≤ 4) (h : pl < F k) : (pats k)[pl]? = some (pat k pl) := by
  have hl : pl < (pats k).length := by rw [pats_len h1 h4]; exact h
  unfold pat
  rw [List.getD_eq_getElem?_getD, List.getElem?_eq_getElem hl]
  rfl
def rising : List (List Nat) → Bool
  | [] => true
  | x :: xs => xs.all (fun y => ltL x y) && rising xs
theorem rising_pw : ∀ {l : List (List Nat)}, rising l = true → l.Pairwise (fun x y => ltL x y = true)
  | [], _ => .nil
  | x :: xs, h => by
    have h : (xs.all (fun y => ltL x y) && rising xs) = true := h
    rw [Bool.and_eq_true] at h
    exact .cons (fun y hy => List.all_eq_true.mp h.1 y hy) (rising_pw h.2)
theorem pats_rise1 : rising (pats 1) = true := by decide +kernel
theorem pats_rise2 : rising (pats 2) = true := by decide +kernel
theorem pats_rise3 : rising (pats 3) = true := by decide +kernel
theorem pats_rise4 : rising (pats 4) = true := by decide +kernel
theorem pats_rise {k : Nat} (h1 : 1 ≤ k) (h4 : k ≤ 4) : (pats k).Pairwise (fun x y => ltL x y = true) := by
  rcases (by omega : k = 1 ∨ k = 2 ∨ k = 3 ∨ k = 4) with rfl | rfl | rfl | rfl
  · exact rising_pw pats_rise1
  · exact rising_pw pats_rise2
  · exact rising_pw pats_rise3
  · exact rising_pw pats_rise4
theorem ltL_irr : ∀ l : List Nat, ltL l l = false
  | [] => rfl
  | x :: xs => by simp [ltL, ltL_irr xs]
theorem ltL_asy : ∀ {l m : List Nat}, ltL l m = true → ltL m l = false
  | [], [], h => by cases h
  | [], y :: ys, h => rfl
  | x :: xs, [], h => by cases h
  | x :: xs, y :: ys, h => by
    rw [ltL_cons] at h
    rcases h with h | ⟨rfl, h⟩
    · simp [ltL]
      omega
    · simp [ltL, ltL_asy h]
theorem ltL_ne {l m : List Nat} (h : ltL l m = true) : l ≠ m := fun e => by rw [e, ltL_irr] at h; cases h
theorem pat_mono {k a b : Nat} (h1 : 1 ≤ k) (h4 : k ≤ 4) (hab : a < b) (hb : b < F k) : ltL (pat k a) (pat k b) = true := by
  have hl := pats_len h1 h4
  have g1 := pat_get h1 h4 (show a < F k by omega)
  have g2 := pat_get h1 h4 hb
  obtain ⟨q1, e1⟩ := List.getElem?_eq_some_iff.mp g1
  obtain ⟨q2, e2⟩ := List.getElem?_eq_some_iff.mp g2
  have := List.pairwise_iff_getElem.mp (pats_rise h1 h4) a b q1 q2 hab
  rw [e1, e2] at this
  exact this
theorem pat_inj {k a b : Nat} (h1 : 1 ≤ k) (h4 : k ≤ 4) (ha : a < F k) (hb : b < F k) (e : pat k a = pat k b) : a = b := by
  rcases Nat.lt_trichotomy a b with c | c | c
  · exact absurd e (ltL_ne (pat_mono h1 h4 c hb))
  · exact c
  · exact absurd e.symm (ltL_ne (pat_mono h1 h4 c ha))
/-- the names that records show -/
def shown (recs p : List Nat) : List Nat := p.map fun i => recs.getD i 0
theorem shown_mono {recs : List Nat} (hr : recs.Pairwise (· < ·)) : ∀ {p q : List Nat}, (∀ i ∈ p, i < recs.length) → (∀ i ∈ q, i < recs.length) → ltL p q = true → ltL (shown recs p) (shown recs q) = true
  | [], [], _, _, h => by cases h
  | [], y :: ys, _, _, h => rfl
  | x :: xs, [], _, _, h => by cases h
  | x :: xs, y :: ys, hp, hq, h => by
    rw [ltL_cons] at h
    show ltL (recs.getD x 0 :: shown recs xs) (recs.getD y 0 :: shown recs ys) = true
    rw [ltL_cons]
    rcases h with h | ⟨rfl, h⟩
    · refine .inl ?_
      have hx := hp x List.mem_cons_self
      have hy := hq y List.mem_cons_self
      have := List.pairwise_iff_getElem.mp hr x y hx hy h
      simpa [List.getD_eq_getElem?_getD, hx, hy] using this
    · exact .inr ⟨rfl, shown_mono hr (fun i hi => hp i (List.mem_cons_of_mem _ hi)) (fun i hi => hq i (List.mem_cons_of_mem _ hi)) h⟩

/-! the keys -/
abbrev Ky := Nat × List Nat × List Nat
def keyP (p : Pc) : Ky := (p.1.length, p.1, shown p.1 (pat p.1.length p.2))
def ltK (x y : Ky) : Bool := decide (x.1 < y.1) || (decide (x.1 = y.1) && (ltL x.2.1 y.2.1 || (decide (x.2.1 = y.2.1) && ltL x.2.2 y.2.2)))
def ltKs : List Ky → List Ky → Bool
  | _, [] => false
  | [], _ :: _ => true
  | x :: xs, y :: ys => if x = y then ltKs xs ys else ltK x y
theorem ltK_iff {x y : Ky} : ltK x y = true ↔ x.1 < y.1 ∨ (x.1 = y.1 ∧ (ltL x.2.1 y.2.1 = true ∨ (x.2.1 = y.2.1 ∧ ltL x.2.2 y.2.2 = true))) := by
  simp [ltK]
theorem ltK_irr (x : Ky) : ltK x x = false := by simp [ltK, ltL_irr]
theorem ltK_asy {x y : Ky} (h : ltK x y = true) : ltK y x = false := by
  rw [ltK_iff] at h
  cases e : ltK y x with
  | false => rfl
  | true =>
    exfalso
    rw [ltK_iff] at e
    rcases h with h | ⟨h1, h2⟩
    · rcases e with e | ⟨e1, _⟩ <;> omega
    · rcases e with e | ⟨e1, e2⟩
      · omega
      · rcases h2 with h2 | ⟨h2, h3⟩
        · rcases e2 with e2 | ⟨e2, _⟩
          · rw [ltL_asy h2] at e2; cases e2
          · exact ltL_ne h2 e2.symm
        · rcases e2 with e2 | ⟨e2, e3⟩
          · exact ltL_ne e2 h2.symm
          · rw [ltL_asy h3] at e3; cases e3
theorem ltKs_irr : ∀ l : List Ky, ltKs l l = false
  | [] => rfl
  | x :: xs => by
    show (if x = x then ltKs xs xs else _) = false
    rw [if_pos rfl, ltKs_irr xs]
theorem ltKs_asy : ∀ {l m : List Ky}, ltKs l m = true → ltKs m l = false
  | [], [], h => by cases h
  | [], y :: ys, h => rfl
  | x :: xs, [], h => by cases h
  | x :: xs, y :: ys, h => by
    have h : (if x = y then ltKs xs ys else ltK x y) = true := h
    show (if y = x then ltKs ys xs else ltK y x) = false
    by_cases c : x = y
    · rw [if_pos c] at h
      rw [if_pos c.symm]
      exact ltKs_asy h
    · rw [if_neg c] at h
      rw [if_neg (fun e => c e.symm)]
      exact ltK_asy h
theorem ltKs_ne {l m : List Ky} (h : ltKs l m = true) : l ≠ m := fun e => by rw [e, ltKs_irr] at h; cases h
theorem ltKs_head {x y : Ky} {xs ys : List Ky} (h : ltK x y = true) : ltKs (x :: xs) (y :: ys) = true := by
  show (if x = y then ltKs xs ys else ltK x y) = true
  rw [if_neg (fun e => by rw [e, ltK_irr] at h; cases h)]
  exact h
/-- the lesser number has the lesser keys -/
theorem dec_mono : ∀ (f : Nat) (left : List Nat) (a b : Nat), left.length ≤ f → left.Pairwise (· < ·) → a < b → b < T left.length → ltKs ((dec f left a).map keyP) ((dec f left b).map keyP) = true
  | 0, left, a, b, hf, hp, hab, h => by
    obtain rfl : left = [] := List.length_eq_zero_iff.mp (by omega)
    rw [List.length_nil, T_zero] at h
    omega
  | f + 1, [], a, b, hf, hp, hab, h => by
    rw [List.length_nil, T_zero] at h
    omega
  | f + 1, x :: xs, a, b, hf, hp, hab, h => by
    have hn : (x :: xs).Nodup := hp.imp (fun h => Nat.ne_of_lt h)
    obtain ⟨hx, hp'⟩ := List.pairwise_cons.mp hp
    obtain ⟨hx', hn'⟩ := List.nodup_cons.mp hn
    have PA := first_ok (xs := xs) (b := a) (by simp at h; omega)
    have PB := first_ok (xs := xs) h
    unfold dec
    generalize pick (xs.length + 1) a = pa at PA
    generalize pick (xs.length + 1) b = pb at PB
    obtain ⟨k, r⟩ := pa
    obtain ⟨k', r'⟩ := pb
    dsimp only at PA PB ⊢
    have a1 := PA.k1
    have a4 := PA.k4
    have b1 := PB.k1
    have b4 := PB.k4
    have la := (subL_ok _ _ _ PA.set)
    have lb := (subL_ok _ _ _ PB.set)
    rw [List.map_cons, List.map_cons]
    rcases Nat.lt_trichotomy k k' with c | c | c
    · refine ltKs_head ?_
      rw [ltK_iff]
      refine .inl ?_
      show (x :: subL xs (k - 1) _).length < (x :: subL xs (k' - 1) _).length
      rw [List.length_cons, List.length_cons, la.1, lb.1]
      omega
    · subst c
      have er := PA.eq
      have er' := PB.eq
      have hrr : r < r' := by omega
      have dA := Nat.div_add_mod r (T (xs.length + 1 - k))
      have dB := Nat.div_add_mod r' (T (xs.length + 1 - k))
      have rA := PA.rest
      have rB := PB.rest
      have q1 := PA.set
      have q2 := PB.set
      have p1 := PA.pat
      have p2 := PB.pat
      have le1 : r / T (xs.length + 1 - k) ≤ r' / T (xs.length + 1 - k) := Nat.div_le_div_right (by omega)
      generalize r / T (xs.length + 1 - k) = e1 at *
      generalize r' / T (xs.length + 1 - k) = e2 at *
      generalize r % T (xs.length + 1 - k) = m1 at *
      generalize r' % T (xs.length + 1 - k) = m2 at *
      rcases Nat.lt_or_ge e1 e2 with ce | ce
      · have dA' := Nat.div_add_mod e1 (F k)
        have dB' := Nat.div_add_mod e2 (F k)
        have le2 : e1 / F k ≤ e2 / F k := Nat.div_le_div_right (by omega)
        generalize e1 / F k = s1 at *
        generalize e2 / F k = s2 at *
        generalize e1 % F k = t1 at *
        generalize e2 % F k = t2 at *
        rcases Nat.lt_or_ge s1 s2 with cs | cs
        · refine ltKs_head ?_
          rw [ltK_iff]
          refine .inr ⟨?_, .inl ?_⟩
          · show (x :: subL xs (k - 1) _).length = (x :: subL xs (k - 1) _).length
            rw [List.length_cons, List.length_cons, la.1, lb.1]
          · show ltL (x :: subL xs (k - 1) s1) (x :: subL xs (k - 1) s2) = true
            rw [ltL_cons]
            exact .inr ⟨rfl, sub_mono _ _ _ _ hp' cs q2⟩
        · obtain rfl : s1 = s2 := by omega
          have ct : t1 < t2 := by omega
          refine ltKs_head ?_
          rw [ltK_iff]
          refine .inr ⟨rfl, .inr ⟨rfl, ?_⟩⟩
          have hl : (x :: subL xs (k - 1) s1).length = k := by rw [List.length_cons, la.1]; omega
          show ltL (shown (x :: subL xs (k - 1) s1) (pat (x :: subL xs (k - 1) s1).length t1)) (shown (x :: subL xs (k - 1) s1) (pat (x :: subL xs (k - 1) s1).length t2)) = true
          rw [hl]
          refine shown_mono (List.Pairwise.sublist (la.2.cons_cons x) hp) ?_ ?_ (pat_mono a1 a4 ct p2)
          · rw [hl]; exact (pats_mem a1 a4 (pat_mem a1 a4 p1)).2
          · rw [hl]; exact (pats_mem a1 a4 (pat_mem a1 a4 p2)).2
      · obtain rfl : e1 = e2 := by omega
        have cm : m1 < m2 := by omega
        show (if _ = _ then _ else _) = true
        rw [if_pos rfl]
        have hlen : (out xs (subL xs (k - 1) (e1 / F k))).length = xs.length + 1 - k := by
          rw [out_len la.2 hn', la.1]
          omega
        simp at hf
        refine dec_mono f _ _ _ (by rw [hlen]; omega) (List.Pairwise.sublist (out_sub _ _) hp') cm (by rw [hlen]; exact rB)
    · have er := PA.eq
      have er' := PB.eq
      have lt1 := PB.lt
      have := pre_mono (n := xs.length + 1) c b1 a4
      omega
end K4
end
section
namespace K4
/-! groups by labels -/
def merge (L : List Nat) (a b : Nat) : List Nat := L.map fun l => if l = max a b then min a b else l
def mrg (im L : List Nat) (r : Nat) : List Nat := merge L (L.getD r 0) (L.getD (im.getD r 0) 0)
def labs (im : List Nat) (i : Nat) : List Nat := (List.range i).foldl (mrg im) (List.range im.length)
def gps (L : List Nat) : List (List Nat) := ((List.range L.length).filter fun k => decide (L.getD k 0 = k)).map fun k => (List.range L.length).filter fun x => decide (L.getD x 0 = k)
/-- all names are records -/
def Good (im : List Nat) : Prop := ∀ x ∈ im, x < im.length
theorem labs_zero (im : List Nat) : labs im 0 = List.range im.length := rfl
theorem labs_succ (im : List Nat) (i : Nat) : labs im (i + 1) = mrg im (labs im i) i := by
  unfold labs
  rw [List.range_succ, List.foldl_append]
  rfl
theorem merge_len (L : List Nat) (a b : Nat) : (merge L a b).length = L.length := by simp [merge]
theorem labs_len (im : List Nat) : ∀ i, (labs im i).length = im.length
  | 0 => by simp [labs_zero]
  | i + 1 => by rw [labs_succ, mrg, merge_len, labs_len im i]
theorem merge_get {L : List Nat} {a b x : Nat} (h : x < L.length) : (merge L a b).getD x 0 = if L.getD x 0 = max a b then min a b else L.getD x 0 := by
  unfold merge
  simp [List.getD_eq_getElem?_getD, h]
theorem good_get {im : List Nat} (g : Good im) {r : Nat} (h : r < im.length) : im.getD r 0 < im.length := by
  rw [List.getD_eq_getElem?_getD, List.getElem?_eq_getElem h]
  exact g _ (List.getElem_mem h)
/-- labels are least -/
structure Lab (n : Nat) (L : List Nat) : Prop where
  len : L.length = n
  le : ∀ x, x < n → L.getD x 0 ≤ x
  idem : ∀ x, x < n → L.getD (L.getD x 0) 0 = L.getD x 0
theorem Lab.range (n : Nat) : Lab n (List.range n) where
  len := by simp
  le := fun x h => by simp [List.getD_eq_getElem?_getD, h]
  idem := fun x h => by simp [List.getD_eq_getElem?_getD, h]
theorem Lab.merge {n : Nat} {L : List Nat} (W : Lab n L) {r s : Nat} (hr : r < n) (hs : s < n) : Lab n (merge L (L.getD r 0) (L.getD s 0)) := by
  have lr := W.le r hr
  have ls := W.le s hs
  have ir := W.idem r hr
  have is' := W.idem s hs
  refine ⟨by rw [merge_len, W.len], fun x h => ?_, fun x h => ?_⟩
  · rw [merge_get (by rw [W.len]; exact h)]
    have := W.le x h
    split <;> omega
  · have := W.le x h
    have ix := W.idem x h
    rw [merge_get (x := x) (by rw [W.len]; exact h)]
    generalize L.getD r 0 = a at *
    generalize L.getD s 0 = b at *
    split
    · rw [merge_get (by rw [W.len]; omega)]
      rcases Nat.le_total a b with c | c
      · rw [Nat.min_eq_left c, Nat.max_eq_right c, ir]
        split <;> rfl
      · rw [Nat.min_eq_right c, Nat.max_eq_left c, is']
        split <;> rfl
    · rename_i hne
      rw [merge_get (by rw [W.len]; omega), ix, if_neg hne]
theorem labs_lab {im : List Nat} (g : Good im) : ∀ i, i ≤ im.length → Lab im.length (labs im i)
  | 0, _ => Lab.range _
  | i + 1, h => by
    rw [labs_succ]
    exact (labs_lab g i (by omega)).merge (by omega) (good_get g (by omega))
/-- equal labels: what the entries keep is equal -/
theorem labs_sound {α : Type} {im : List Nat} (g : Good im) (φ : Nat → α) (h : ∀ r, r < im.length → φ r = φ (im.getD r 0)) : ∀ i, i ≤ im.length → ∀ x y, x < im.length → y < im.length → (labs im i).getD x 0 = (labs im i).getD y 0 → φ x = φ y
  | 0, _, x, y, hx, hy, e => by
    rw [labs_zero] at e
    simp [List.getD_eq_getElem?_getD, hx, hy] at e
    rw [e]
  | i + 1, hi, x, y, hx, hy, e => by
    have ih := labs_sound g φ h i (by omega)
    have l := labs_len im i
    have hr : i < im.length := by omega
    have hs := good_get g hr
    rw [labs_succ, mrg, merge_get (by omega), merge_get (by omega)] at e
    have hrs := h i hr
    have key : ∀ z, z < im.length → (labs im i).getD z 0 = max ((labs im i).getD i 0) ((labs im i).getD (im.getD i 0) 0) → φ z = φ i := fun z hz ez => by
      rcases Nat.le_total ((labs im i).getD i 0) ((labs im i).getD (im.getD i 0) 0) with c | c
      · rw [Nat.max_eq_right c] at ez
        rw [hrs]
        exact ih _ _ hz hs ez
      · rw [Nat.max_eq_left c] at ez
        exact ih _ _ hz hr ez
    have key2 : ∀ z, z < im.length → min ((labs im i).getD i 0) ((labs im i).getD (im.getD i 0) 0) = (labs im i).getD z 0 → φ i = φ z := fun z hz ez => by
      rcases Nat.le_total ((labs im i).getD i 0) ((labs im i).getD (im.getD i 0) 0) with c | c
      · rw [Nat.min_eq_left c] at ez
        exact ih _ _ hr hz ez
      · rw [Nat.min_eq_right c] at ez
        rw [hrs]
        exact ih _ _ hs hz ez
    split at e
    · rename_i c1
      split at e
      · rename_i c2
        rw [key x hx c1, key y hy c2]
      · rw [key x hx c1, key2 y hy e]
    · split at e
      · rename_i c2
        rw [key y hy c2, key2 x hx e.symm]
      · exact ih x y hx hy e
/-- a record and the name it shows have one label -/
theorem labs_full {im : List Nat} (g : Good im) : ∀ i, i ≤ im.length → ∀ r, r < i → (labs im i).getD r 0 = (labs im i).getD (im.getD r 0) 0
  | 0, _, r, h => by omega
  | i + 1, hi, r, h => by
    have l := labs_len im i
    have hr : r < im.length := by omega
    have hs := good_get g hr
    rw [labs_succ, mrg, merge_get (by omega), merge_get (by omega)]
    by_cases c : r = i
    · subst c
      generalize (labs im r).getD r 0 = a
      generalize (labs im r).getD (im.getD r 0) 0 = b
      rcases Nat.le_total a b with c | c
      · rw [Nat.min_eq_left c, Nat.max_eq_right c]
        simp
      · rw [Nat.min_eq_right c, Nat.max_eq_left c]
        simp
    · rw [labs_full g i (by omega) r (by omega)]

/-! images of pieces -/
/-- the pieces' images -/
def Shows (im : List Nat) (pc : Pc) : Prop := ∀ i, i < pc.1.length → im[pc.1.getD i 0]? = some (pc.1.getD ((pat pc.1.length pc.2).getD i 0) 0)
structure IsImg (n : Nat) (ps : List Pc) (im : List Nat) : Prop where
  len : im.length = n
  sh : ∀ pc ∈ ps, Shows im pc
theorem val_mem : ∀ {ps : List Pc} {left : List Nat}, left.Nodup → Val left ps → ∀ x, x ∈ left ↔ ∃ pc ∈ ps, x ∈ pc.1
  | [], [], _, _, x => by simp
  | [], y :: ys, _, h, x => absurd h Val_none
  | (recs, pl) :: rest, [], _, h, x => by rw [Val_nil] at h; cases h
  | (recs, pl) :: rest, y :: xs, hn, h, x => by
    obtain ⟨hy, hn'⟩ := List.nodup_cons.mp hn
    obtain ⟨ys, rfl, hs, h3, hp, hv⟩ := Val_cons.mp h
    have ih := val_mem (out_nodup (ys := ys) hn') hv x
    constructor
    · intro hx
      by_cases c : x ∈ y :: ys
      · exact ⟨_, List.mem_cons_self, c⟩
      · have : x ∈ out xs ys := by
          rcases List.mem_cons.mp hx with e | e
          · exact absurd (List.mem_cons.mpr (.inl e)) c
          · unfold out
            rw [List.mem_filter]
            exact ⟨e, decide_eq_true fun z => c (List.mem_cons_of_mem _ z)⟩
        obtain ⟨pc, h1, h2⟩ := ih.mp this
        exact ⟨pc, List.mem_cons_of_mem _ h1, h2⟩
    · rintro ⟨pc, h1, h2⟩
      rcases List.mem_cons.mp h1 with e | e
      · subst e
        rcases List.mem_cons.mp h2 with e | e
        · rw [e]; exact List.mem_cons_self
        · exact List.mem_cons_of_mem _ (hs.subset e)
      · exact List.mem_cons_of_mem _ ((out_sub _ _).subset (ih.mpr ⟨pc, e, h2⟩))
/-- what a piece among valid ones is -/
structure PcOk (left : List Nat) (pc : Pc) : Prop where
  sub : pc.1.Sublist left
  l1 : 1 ≤ pc.1.length
  l4 : pc.1.length ≤ 4
  pl : pc.2 < F pc.1.length
theorem val_ok : ∀ {ps : List Pc} {left : List Nat}, Val left ps → ∀ pc ∈ ps, PcOk left pc
  | [], left, _, pc, h => by cases h
  | (recs, pl) :: rest, [], h, pc, _ => by rw [Val_nil] at h; cases h
  | (recs, pl) :: rest, y :: xs, h, pc, hm => by
    obtain ⟨ys, rfl, hs, h3, hp, hv⟩ := Val_cons.mp h
    rcases List.mem_cons.mp hm with e | e
    · subst e
      exact ⟨hs.cons_cons y, by simp, by simp; omega, hp⟩
    · have q := val_ok hv pc e
      exact ⟨(q.sub.trans (out_sub _ _)).cons y, q.l1, q.l4, q.pl⟩
/-- two pieces with a record in common are one -/
theorem val_one : ∀ {ps : List Pc} {left : List Nat}, left.Nodup → Val left ps → ∀ pc ∈ ps, ∀ pc' ∈ ps, ∀ x, x ∈ pc.1 → x ∈ pc'.1 → pc = pc'
  | [], left, _, _, pc, h, _, _, _, _, _ => by cases h
  | (recs, pl) :: rest, [], _, h, pc, _, _, _, _, _, _ => by rw [Val_nil] at h; cases h
  | (recs, pl) :: rest, y :: xs, hn, h, pc, h1, pc', h2, x, x1, x2 => by
    obtain ⟨hy, hn'⟩ := List.nodup_cons.mp hn
    obtain ⟨ys, rfl, hs, h3, hp, hv⟩ := Val_cons.mp h
    have ex : ∀ q ∈ rest, x ∈ q.1 → x ∉ y :: ys := fun q hq hx z => by
      have m := (val_mem (out_nodup (ys := ys) hn') hv x).mpr ⟨q, hq, hx⟩
      have m1 := (out_sub _ _).subset m
      unfold out at m
      rw [List.mem_filter] at m
      rcases List.mem_cons.mp z with e | e
      · exact hy (e ▸ m1)
      · exact (of_decide_eq_true m.2) e
    rcases List.mem_cons.mp h1 with e1 | e1
    · rcases List.mem_cons.mp h2 with e2 | e2
      · rw [e1, e2]
      · subst e1
        exact absurd x1 (ex _ e2 x2)
    · rcases List.mem_cons.mp h2 with e2 | e2
      · subst e2
        exact absurd x2 (ex _ e1 x1)
      · exact val_one (out_nodup hn') hv pc e1 pc' e2 x x1 x2
theorem range_nodup (n : Nat) : (List.range n).Nodup := List.nodup_range
theorem range_pw (n : Nat) : (List.range n).Pairwise (· < ·) := List.pairwise_lt_range
theorem img_get {n : Nat} {ps : List Pc} {im : List Nat} (v : Val (List.range n) ps) (h : IsImg n ps im) {x : Nat} (hx : x < n) :
    ∃ pc ∈ ps, ∃ i, i < pc.1.length ∧ pc.1.getD i 0 = x ∧ im[x]? = some (pc.1.getD ((pat pc.1.length pc.2).getD i 0) 0) := by
  obtain ⟨pc, h1, h2⟩ := (val_mem (range_nodup n) v x).mp (List.mem_range.mpr hx)
  obtain ⟨i, hi, e⟩ := List.getElem_of_mem h2
  have e' : pc.1.getD i 0 = x := by rw [List.getD_eq_getElem?_getD, List.getElem?_eq_getElem hi]; exact e
  refine ⟨pc, h1, i, hi, e', ?_⟩
  have := h.sh pc h1 i hi
  rw [e'] at this
  exact this
theorem img_unique {n : Nat} {ps : List Pc} {im im' : List Nat} (v : Val (List.range n) ps) (h : IsImg n ps im) (h' : IsImg n ps im') : im = im' := by
  refine List.ext_getElem? fun x => ?_
  by_cases hx : x < n
  · obtain ⟨pc, h1, i, hi, e, q⟩ := img_get v h hx
    have q' := h'.sh pc h1 i hi
    rw [e] at q'
    rw [q, q']
  · rw [List.getElem?_eq_none (by rw [h.len]; omega), List.getElem?_eq_none (by rw [h'.len]; omega)]
theorem patD_lt {k pl i : Nat} (h1 : 1 ≤ k) (h4 : k ≤ 4) (h : pl < F k) (hi : i < k) : (pat k pl).getD i 0 < k := by
  obtain ⟨a, b⟩ := pats_mem h1 h4 (pat_mem h1 h4 h)
  rw [List.getD_eq_getElem?_getD, List.getElem?_eq_getElem (by omega)]
  exact b _ (List.getElem_mem _)
theorem getD_mem {l : List Nat} {i : Nat} (h : i < l.length) : l.getD i 0 ∈ l := by
  rw [List.getD_eq_getElem?_getD, List.getElem?_eq_getElem h]
  exact List.getElem_mem _
theorem img_good {n : Nat} {ps : List Pc} {im : List Nat} (v : Val (List.range n) ps) (h : IsImg n ps im) : Good im := by
  intro y hy
  obtain ⟨x, hx, e⟩ := List.getElem_of_mem hy
  rw [h.len] at hx
  obtain ⟨pc, h1, i, hi, e2, q⟩ := img_get v h hx
  have ok := val_ok v pc h1
  have hx' : x < im.length := by rw [h.len]; exact hx
  rw [List.getElem?_eq_getElem hx', Option.some.injEq] at q
  rw [← e, q, h.len]
  have := getD_mem (l := pc.1) (patD_lt ok.l1 ok.l4 ok.pl hi)
  exact List.mem_range.mp (ok.sub.subset this)
theorem img_getD {n : Nat} {ps : List Pc} {im : List Nat} (h : IsImg n ps im) {pc : Pc} (hp : pc ∈ ps) {i : Nat} (hi : i < pc.1.length) : im.getD (pc.1.getD i 0) 0 = pc.1.getD ((pat pc.1.length pc.2).getD i 0) 0 := by
  rw [List.getD_eq_getElem?_getD (l := im), h.sh pc hp i hi]
  rfl
/-! the patterns hang together -/
theorem conn1 : ((pats 1).all fun p => decide (labs p 1 = List.replicate 1 0)) = true := by decide +kernel
theorem conn2 : ((pats 2).all fun p => decide (labs p 2 = List.replicate 2 0)) = true := by decide +kernel
theorem conn3 : ((pats 3).all fun p => decide (labs p 3 = List.replicate 3 0)) = true := by decide +kernel
theorem conn4 : ((pats 4).all fun p => decide (labs p 4 = List.replicate 4 0)) = true := by decide +kernel
theorem conn {k : Nat} (h1 : 1 ≤ k) (h4 : k ≤ 4) {p : List Nat} (h : p ∈ pats k) : labs p k = List.replicate k 0 := by
  rcases (by omega : k = 1 ∨ k = 2 ∨ k = 3 ∨ k = 4) with rfl | rfl | rfl | rfl
  · exact of_decide_eq_true (List.all_eq_true.mp conn1 p h)
  · exact of_decide_eq_true (List.all_eq_true.mp conn2 p h)
  · exact of_decide_eq_true (List.all_eq_true.mp conn3 p h)
  · exact of_decide_eq_true (List.all_eq_true.mp conn4 p h)
theorem conn_const {k pl : Nat} (h1 : 1 ≤ k) (h4 : k ≤ 4) (h : pl < F k) (φ : Nat → Nat) (hφ : ∀ i, i < k → φ i = φ ((pat k pl).getD i 0)) : ∀ i, i < k → φ i = φ 0 := by
  have hm := pat_mem h1 h4 h
  obtain ⟨a, b⟩ := pats_mem h1 h4 hm
  have g : Good (pat k pl) := fun x hx => by rw [a]; exact b x hx
  intro i hi
  refine labs_sound g φ (fun r hr => hφ r (by omega)) k (by omega) i 0 (by omega) (by omega) ?_
  rw [conn h1 h4 hm]
  have h0 : 0 < k := by omega
  simp [List.getD_eq_getElem?_getD, hi, h0]
theorem sublist_of_mem {x : Nat} {l : List Nat} : l.Pairwise (· < ·) → x ∈ l → l.getD 0 0 ≤ x := by
  intro hp hx
  cases l with
  | nil => cases hx
  | cons y ys =>
    rcases List.mem_cons.mp hx with e | e
    · rw [e]; exact Nat.le_refl _
    · exact Nat.le_of_lt ((List.pairwise_cons.mp hp).1 x e)
/-- a record's label is its piece's first record -/
theorem lab_head {n : Nat} {ps : List Pc} {im : List Nat} (v : Val (List.range n) ps) (h : IsImg n ps im) {pc : Pc} (hp : pc ∈ ps) {x : Nat} (hx : x ∈ pc.1) : (labs im n).getD x 0 = pc.1.getD 0 0 := by
  have g := img_good v h
  have ok := val_ok v pc hp
  have W := labs_lab g n (by rw [h.len]; exact Nat.le_refl _)
  have full := labs_full g n (by rw [h.len]; exact Nat.le_refl _)
  have inn : ∀ pc ∈ ps, ∀ x ∈ pc.1, x < n := fun pc hp x hx => List.mem_range.mp ((val_ok v pc hp).sub.subset hx)
  -- one label on the piece
  have one : ∀ i, i < pc.1.length → (labs im n).getD (pc.1.getD i 0) 0 = (labs im n).getD (pc.1.getD 0 0) 0 :=
    conn_const ok.l1 ok.l4 ok.pl (fun i => (labs im n).getD (pc.1.getD i 0) 0) fun i hi => by
      show (labs im n).getD (pc.1.getD i 0) 0 = (labs im n).getD (pc.1.getD ((pat pc.1.length pc.2).getD i 0) 0) 0
      rw [full _ (inn pc hp _ (getD_mem hi)), img_getD h hp hi]
  obtain ⟨i, hi, e⟩ := List.getElem_of_mem hx
  have e' : pc.1.getD i 0 = x := by rw [List.getD_eq_getElem?_getD, List.getElem?_eq_getElem hi]; exact e
  rw [← e', one i hi]
  -- the label is a record of the piece
  have h0 : pc.1.getD 0 0 ∈ pc.1 := getD_mem ok.l1
  have hlt := inn pc hp _ h0
  have le := W.le _ (by rw [h.len]; exact hlt)
  have id := W.idem _ (by rw [h.len]; exact hlt)
  have cov : ∀ y, y < n → ∃ pc ∈ ps, y ∈ pc.1 := fun y hy => (val_mem (range_nodup n) v y).mp (List.mem_range.mpr hy)
  have same := labs_sound g (fun y => pc.1.contains y) (fun r hr => by
    rw [h.len] at hr
    obtain ⟨qc, h1, j, hj, e2, q⟩ := img_get v h hr
    have okq := val_ok v qc h1
    have er : im.getD r 0 = qc.1.getD ((pat qc.1.length qc.2).getD j 0) 0 := by rw [List.getD_eq_getElem?_getD, q]; rfl
    rw [er]
    have m1 : r ∈ qc.1 := by rw [← e2]; exact getD_mem hj
    have m2 := getD_mem (l := qc.1) (patD_lt okq.l1 okq.l4 okq.pl hj)
    rw [Bool.eq_iff_iff]
    simp only [List.contains_iff_mem]
    constructor
    · intro z
      rw [val_one (range_nodup n) v pc hp qc h1 r z m1]
      exact m2
    · intro z
      rw [val_one (range_nodup n) v pc hp qc h1 _ z m2]
      exact m1) n (by rw [h.len]; exact Nat.le_refl _) _ _ (by rw [h.len]; omega) (by rw [h.len]; exact hlt) id
  have inP : (labs im n).getD (pc.1.getD 0 0) 0 ∈ pc.1 := by
    have : pc.1.contains (pc.1.getD 0 0) = true := List.contains_iff_mem.mpr h0
    rw [← same] at this
    exact List.contains_iff_mem.mp this
  have := sublist_of_mem (List.Pairwise.sublist ok.sub (range_pw n)) inP
  omega
theorem filter_eq_sub {l ys : List Nat} (h : ys.Sublist l) (hn : l.Nodup) : l.filter (fun x => decide (x ∈ ys)) = ys := by
  induction h with
  | slnil => rfl
  | @cons l1 l2 a h ih =>
    obtain ⟨ha, hn'⟩ := List.nodup_cons.mp hn
    have hna : a ∉ l1 := fun z => ha (h.subset z)
    rw [List.filter_cons_of_neg (by simpa using hna)]
    exact ih hn'
  | @cons_cons l1 l2 a h ih =>
    obtain ⟨ha, hn'⟩ := List.nodup_cons.mp hn
    rw [List.filter_cons_of_pos (by simp)]
    have e : l2.filter (fun x => decide (x ∈ a :: l1)) = l2.filter (fun x => decide (x ∈ l1)) := by
      refine List.filter_congr fun x hx => ?_
      have hxa : x ≠ a := fun z => ha (z ▸ hx)
      simp [hxa]
    rw [e, ih hn']
theorem gps_of : ∀ (ps : List Pc) (left : List Nat) (lab : Nat → Nat), left.Nodup → Val left ps → (∀ pc ∈ ps, ∀ x ∈ pc.1, lab x = pc.1.getD 0 0) →
    ((left.filter fun k => decide (lab k = k)).map fun k => left.filter fun x => decide (lab x = k)) = ps.map (·.1)
  | [], [], lab, _, _, _ => rfl
  | [], y :: ys, _, _, h, _ => absurd h Val_none
  | (recs, pl) :: rest, [], _, _, h, _ => by rw [Val_nil] at h; cases h
  | (recs, pl) :: rest, x :: xs, lab, hn, h, hl => by
    obtain ⟨hx, hn'⟩ := List.nodup_cons.mp hn
    obtain ⟨ys, rfl, hs, h3, hp, hv⟩ := Val_cons.mp h
    have lx : ∀ z ∈ x :: ys, lab z = x := fun z hz => hl _ List.mem_cons_self z hz
    have lrest : ∀ z ∈ out xs ys, lab z ∈ out xs ys := fun z hz => by
      obtain ⟨pc, h1, h2⟩ := (val_mem (out_nodup hn') hv z).mp hz
      rw [hl pc (List.mem_cons_of_mem _ h1) z h2]
      exact (val_ok hv pc h1).sub.subset (getD_mem (val_ok hv pc h1).l1)
    have cases' : ∀ z ∈ x :: xs, z ∈ x :: ys ∨ z ∈ out xs ys := fun z hz => by
      by_cases c : z ∈ x :: ys
      · exact .inl c
      · refine .inr ?_
        rcases List.mem_cons.mp hz with e | e
        · exact absurd (List.mem_cons.mpr (.inl e)) c
        · unfold out
          rw [List.mem_filter]
          exact ⟨e, decide_eq_true fun z => c (List.mem_cons_of_mem _ z)⟩
    have nout : ∀ z ∈ out xs ys, z ∉ x :: ys := fun z hz c => by
      have m1 := (out_sub _ _).subset hz
      unfold out at hz
      rw [List.mem_filter] at hz
      rcases List.mem_cons.mp c with e | e
      · exact hx (e ▸ m1)
      · exact (of_decide_eq_true hz.2) e
    have ih := gps_of rest (out xs ys) lab (out_nodup hn') hv fun pc hpc => hl pc (List.mem_cons_of_mem _ hpc)
    have e1 : (x :: xs).filter (fun k => decide (lab k = k)) = x :: (out xs ys).filter (fun k => decide (lab k = k)) := by
      rw [List.filter_cons_of_pos (by simpa using lx x List.mem_cons_self)]
      unfold out
      rw [List.filter_filter]
      congr 1
      refine List.filter_congr fun z hz => ?_
      by_cases c : z ∈ ys
      · have := lx z (List.mem_cons_of_mem _ c)
        have hne : x ≠ z := fun e => hx (e ▸ hz)
        simp [this, hne, c]
      · simp [c]
    rw [e1, List.map_cons, List.map_cons]
    congr 1
    · show (x :: xs).filter (fun z => decide (lab z = x)) = x :: ys
      refine Eq.trans (List.filter_congr fun z hz => ?_) (filter_eq_sub (hs.cons_cons x) hn)
      rcases cases' z hz with c | c
      · simp only [lx z c, c, decide_true]
      · have hne : ¬ lab z = x := fun e => nout _ (lrest z c) (by rw [e]; exact List.mem_cons_self)
        rw [decide_eq_false hne, decide_eq_false (nout z c)]
    · rw [← ih]
      refine List.map_congr_left fun k hk => ?_
      have hk' : k ∈ out xs ys := (List.mem_filter.mp hk).1
      have hxk : ¬ x = k := fun e => nout k hk' (by rw [e]; exact List.mem_cons_self)
      rw [List.filter_cons_of_neg (by rw [lx x List.mem_cons_self]; simpa using hxk)]
      unfold out
      rw [List.filter_filter]
      refine List.filter_congr fun z hz => ?_
      by_cases c : z ∈ ys
      · rw [lx z (List.mem_cons_of_mem _ c), decide_eq_false hxk]
        rfl
      · simp [c]
/-- the groups are the pieces' records -/
theorem groups_img {n : Nat} {ps : List Pc} {im : List Nat} (v : Val (List.range n) ps) (h : IsImg n ps im) : gps (labs im im.length) = ps.map (·.1) := by
  unfold gps
  rw [labs_len, h.len]
  exact gps_of ps (List.range n) (fun k => (labs im n).getD k 0) (range_nodup n) v fun pc hpc x hx => lab_head v h hpc hx
end K4
end
section
namespace K4
/-! painting -/
/-- for record, shown in zip(records, pattern): image[record] = records[shown] -/
def paintF (recs : List Nat) (im : List Nat) (q : Nat × Nat) : List Nat := im.set q.1 (recs.getD q.2 0)
def paint (im : List Nat) (pc : Pc) : List Nat := (pc.1.zip (pat pc.1.length pc.2)).foldl (paintF pc.1) im
def imgOf (n : Nat) (ps : List Pc) : List Nat := ps.foldl paint (List.replicate n 0)
theorem paintF_len (recs im : List Nat) (q : Nat × Nat) : (paintF recs im q).length = im.length := by simp [paintF]
theorem paints_len (recs : List Nat) : ∀ (l : List (Nat × Nat)) (im : List Nat), (l.foldl (paintF recs) im).length = im.length
  | [], _ => rfl
  | q :: l, im => by rw [List.foldl_cons, paints_len recs l, paintF_len]
theorem paints_other (recs : List Nat) : ∀ (l : List (Nat × Nat)) (im : List Nat) (x : Nat), (∀ q ∈ l, q.1 ≠ x) → (l.foldl (paintF recs) im)[x]? = im[x]?
  | [], _, _, _ => rfl
  | q :: l, im, x, h => by
    rw [List.foldl_cons, paints_other recs l _ x fun q hq => h q (List.mem_cons_of_mem _ hq)]
    unfold paintF
    rw [List.getElem?_set_ne (h q List.mem_cons_self)]
theorem paints_at (recs : List Nat) : ∀ (l : List (Nat × Nat)) (im : List Nat) (i : Nat) (a b : Nat), (l.map (·.1)).Nodup → l[i]? = some (a, b) → a < im.length → (l.foldl (paintF recs) im)[a]? = some (recs.getD b 0)
  | [], im, i, a, b, _, h, _ => by simp at h
  | q :: l, im, 0, a, b, hn, h, ha => by
    rw [List.map_cons, List.nodup_cons] at hn
    simp at h
    subst h
    rw [List.foldl_cons, paints_other recs l _ a fun q hq e => hn.1 (List.mem_map.mpr ⟨q, hq, e⟩)]
    unfold paintF
    rw [List.getElem?_set_self ha]
  | q :: l, im, i + 1, a, b, hn, h, ha => by
    rw [List.map_cons, List.nodup_cons] at hn
    rw [List.foldl_cons]
    exact paints_at recs l _ i a b hn.2 (by simpa using h) (by rw [paintF_len]; exact ha)
theorem paint_len (im : List Nat) (pc : Pc) : (paint im pc).length = im.length := paints_len _ _ _
theorem paint_other {im : List Nat} {pc : Pc} {x : Nat} (h : x ∉ pc.1) : (paint im pc)[x]? = im[x]? := by
  refine paints_other _ _ _ _ fun q hq e => h ?_
  rw [← e]
  exact (List.of_mem_zip hq).1
theorem paint_shows {im : List Nat} {pc : Pc} {left : List Nat} (ok : PcOk left pc) (hn : left.Nodup) (hb : ∀ x ∈ left, x < im.length) : Shows (paint im pc) pc := by
  intro i hi
  have hl : (pat pc.1.length pc.2).length = pc.1.length := (pats_mem ok.l1 ok.l4 (pat_mem ok.l1 ok.l4 ok.pl)).1
  refine paints_at pc.1 _ im i _ _ ?_ ?_ (hb _ (ok.sub.subset (getD_mem hi)))
  · rw [List.map_fst_zip (by omega)]
    exact List.Sublist.nodup ok.sub hn
  · rw [List.getElem?_zip_eq_some]
    simp [List.getD_eq_getElem?_getD, hi, hl]
theorem paintAll_len : ∀ (ps : List Pc) (im : List Nat), (ps.foldl paint im).length = im.length
  | [], _ => rfl
  | pc :: ps, im => by rw [List.foldl_cons, paintAll_len ps, paint_len]
theorem paintAll_other : ∀ (ps : List Pc) (im : List Nat) (x : Nat), (∀ pc ∈ ps, x ∉ pc.1) → (ps.foldl paint im)[x]? = im[x]?
  | [], _, _, _ => rfl
  | pc :: ps, im, x, h => by rw [List.foldl_cons, paintAll_other ps _ x fun q hq => h q (List.mem_cons_of_mem _ hq), paint_other (h pc List.mem_cons_self)]
theorem paintAll_shows : ∀ (ps : List Pc) (left im : List Nat), left.Nodup → Val left ps → (∀ x ∈ left, x < im.length) → ∀ pc ∈ ps, Shows (ps.foldl paint im) pc
  | [], _, _, _, _, _, pc, h => by cases h
  | (recs, pl) :: rest, [], _, _, h, _, _, _ => by rw [Val_nil] at h; cases h
  | (recs, pl) :: rest, x :: xs, im, hn, h, hb, pc, hp => by
    obtain ⟨hx, hn'⟩ := List.nodup_cons.mp hn
    have ok := val_ok h (recs, pl) List.mem_cons_self
    obtain ⟨ys, rfl, hs, h3, hpl, hv⟩ := Val_cons.mp h
    rw [List.foldl_cons]
    rcases List.mem_cons.mp hp with e | e
    · subst e
      have sh := paint_shows ok hn hb
      intro i hi
      have q := sh i hi
      rw [paintAll_other rest _ _ fun qc hq z => ?_]
      · exact q
      · have m := (val_mem (out_nodup (ys := ys) hn') hv _).mpr ⟨qc, hq, z⟩
        have mx := (out_sub _ _).subset m
        unfold out at m
        rw [List.mem_filter] at m
        have mm := getD_mem hi
        rcases List.mem_cons.mp mm with e | e
        · exact hx (e ▸ mx)
        · exact (of_decide_eq_true m.2) e
    · refine paintAll_shows rest (out xs ys) _ (out_nodup hn') hv (fun z hz => ?_) pc e
      rw [paint_len]
      exact hb z (List.mem_cons_of_mem _ ((out_sub _ _).subset hz))
theorem imgOf_ok {n : Nat} {ps : List Pc} (v : Val (List.range n) ps) : IsImg n ps (imgOf n ps) :=
  ⟨by unfold imgOf; rw [paintAll_len]; simp, fun pc hp => paintAll_shows ps (List.range n) _ (range_nodup n) v (fun x hx => by simpa using hx) pc hp⟩
/-- the image of a number -/
def decR (n b : Nat) : List Pc := dec n (List.range n) b
def imAt (n b : Nat) : List Nat := imgOf n (decR n b)
theorem decR_ok {n b : Nat} (h : b < T n) : Val (List.range n) (decR n b) ∧ enc (List.range n) (decR n b) = b :=
  dec_ok n (List.range n) b (by simp) (range_nodup n) (by simpa using h)
theorem imAt_ok {n b : Nat} (h : b < T n) : IsImg n (decR n b) (imAt n b) := imgOf_ok (decR_ok h).1
/-- number 0 -/
theorem pat10 : pat 1 0 = [0] := by decide +kernel
theorem dec_zero : ∀ (f : Nat) (left : List Nat), left.length ≤ f → left.Nodup → ∀ pc ∈ dec f left 0, ∃ x, pc = ([x], 0)
  | 0, left, hf, hn, pc, h => by cases h
  | f + 1, [], hf, hn, pc, h => by cases h
  | f + 1, x :: xs, hf, hn, pc, h => by
    have hn' := (List.nodup_cons.mp hn).2
    have hb : 0 < blk (xs.length + 1) 1 := by
      unfold blk
      rw [ch_zero]
      have := T_pos xs.length
      simpa [F] using this
    have e : pick (xs.length + 1) 0 = (1, 0) := by
      have := pick_of (n := xs.length + 1) (k := 1) (r := 0) (by omega) (by omega) hb
      rw [pre_1] at this
      exact this
    unfold dec at h
    rw [e] at h
    dsimp only at h
    rw [subL_zero, Nat.zero_div, Nat.zero_mod, Nat.zero_mod] at h
    have eo : out xs [] = xs := by unfold out; simp
    rw [eo] at h
    rcases List.mem_cons.mp h with e | e
    · exact ⟨x, e⟩
    · exact dec_zero f xs (by simp at hf; omega) hn' pc e
theorem imAt_zero (n : Nat) : imAt n 0 = List.range n := by
  have v := (decR_ok (T_pos n)).1
  refine img_unique v (imAt_ok (T_pos n)) ⟨by simp, fun pc hp i hi => ?_⟩
  have ok := val_ok v pc hp
  obtain ⟨x, rfl⟩ := dec_zero n (List.range n) (by simp) (range_nodup n) pc hp
  have hx : x ∈ List.range n := ok.sub.subset (List.mem_singleton.mpr rfl)
  rw [List.mem_range] at hx
  have : i = 0 := by simp at hi; omega
  subst this
  show (List.range n)[x]? = some ([x].getD ((pat 1 0).getD 0 0) 0)
  rw [pat10]
  simp [hx]
/-- the keys of an image -/
def keysOf (im : List Nat) : List Ky := (gps (labs im im.length)).map fun g => (g.length, g, g.map fun r => im.getD r 0)
theorem keys_img {n : Nat} {ps : List Pc} {im : List Nat} (v : Val (List.range n) ps) (h : IsImg n ps im) : keysOf im = ps.map keyP := by
  unfold keysOf
  rw [groups_img v h, List.map_map]
  refine List.map_congr_left fun pc hp => ?_
  show (pc.1.length, pc.1, pc.1.map fun r => im.getD r 0) = (pc.1.length, pc.1, shown pc.1 (pat pc.1.length pc.2))
  congr 2
  have ok := val_ok v pc hp
  have hl : (pat pc.1.length pc.2).length = pc.1.length := (pats_mem ok.l1 ok.l4 (pat_mem ok.l1 ok.l4 ok.pl)).1
  refine List.ext_getElem (by simp [shown, hl]) fun i h1 h2 => ?_
  rw [List.length_map] at h1
  have := img_getD h hp h1
  simp [shown, List.getD_eq_getElem?_getD, h1, hl] at this ⊢
  exact this
theorem keys_lt {n a b : Nat} (hab : a < b) (hb : b < T n) : ltKs (keysOf (imAt n a)) (keysOf (imAt n b)) = true := by
  rw [keys_img (decR_ok (show a < T n by omega)).1 (imAt_ok (by omega)), keys_img (decR_ok hb).1 (imAt_ok hb)]
  exact dec_mono n (List.range n) a b (by simp) (range_pw n) hab (by simpa using hb)
/-- the law's two comparisons -/
theorem keys_cmp {n a b : Nat} (ha : a < T n) (hb : b < T n) : ltKs (keysOf (imAt n a)) (keysOf (imAt n b)) = decide (a < b) ∧ decide (keysOf (imAt n a) = keysOf (imAt n b)) = decide (a = b) := by
  rcases Nat.lt_trichotomy a b with c | c | c
  · have := keys_lt c hb
    rw [this, decide_eq_true c, decide_eq_false (ltKs_ne this), decide_eq_false (by omega)]
    exact ⟨rfl, rfl⟩
  · subst c
    rw [ltKs_irr, decide_eq_false (by omega), decide_eq_true rfl, decide_eq_true rfl]
    exact ⟨rfl, rfl⟩
  · have := keys_lt c ha
    rw [ltKs_asy this, decide_eq_false (by omega), decide_eq_false (fun e => ltKs_ne this e.symm), decide_eq_false (by omega)]
    exact ⟨rfl, rfl⟩
end K4
end
section
namespace K4
/-! the listed order of a piece -/
def lastD (l : List Nat) : Nat := l.getD (l.length - 1) 0
def walkP (im : List Nat) : Nat → List Nat → List Nat
  | 0, path => path
  | f + 1, path => if im.getD (lastD path) 0 ∈ path then path else walkP im f (path ++ [im.getD (lastD path) 0])
def shownOf (im g : List Nat) : List Nat := g.map fun r => im.getD r 0
def unshown (im g : List Nat) : List Nat := g.filter fun r => decide (r ∉ shownOf im g)
def startOf (im g : List Nat) : Nat := if unshown im g = [] then g.getD 0 0 else (unshown im g).getD 0 0
def pathOf (im g : List Nat) : List Nat := walkP im 4 [startOf im g]
def recsOf (im g : List Nat) : List Nat := pathOf im g ++ g.filter fun r => decide (r ∉ pathOf im g)
def shapeOf (im rs : List Nat) : List Nat := rs.map fun r => rs.idxOf (im.getD r 0)
/-- a group that is a piece -/
structure FormOk (im g : List Nat) : Prop where
  l1 : 1 ≤ g.length
  l4 : g.length ≤ 4
  stop : im.getD (lastD (pathOf im g)) 0 ∈ pathOf im g
  perm : (recsOf im g).Perm g
  shape : shapeOf im (recsOf im g) ∈ shp
  inn : ∀ r ∈ recsOf im g, im.getD r 0 ∈ recsOf im g
def okPat (k : Nat) (p : List Nat) : Bool :=
  decide (p.getD (lastD (pathOf p (List.range k))) 0 ∈ pathOf p (List.range k)) && (recsOf p (List.range k)).isPerm (List.range k) && decide (shapeOf p (recsOf p (List.range k)) ∈ shp) && (recsOf p (List.range k)).all fun r => decide (p.getD r 0 ∈ recsOf p (List.range k))
theorem okPat1 : ((pats 1).all (okPat 1)) = true := by decide +kernel
theorem okPat2 : ((pats 2).all (okPat 2)) = true := by decide +kernel
theorem okPat3 : ((pats 3).all (okPat 3)) = true := by decide +kernel
theorem okPat4 : ((pats 4).all (okPat 4)) = true := by decide +kernel
theorem formPat {k : Nat} (h1 : 1 ≤ k) (h4 : k ≤ 4) {p : List Nat} (h : p ∈ pats k) : FormOk p (List.range k) := by
  have q : okPat k p = true := by
    rcases (by omega : k = 1 ∨ k = 2 ∨ k = 3 ∨ k = 4) with rfl | rfl | rfl | rfl
    · exact List.all_eq_true.mp okPat1 p h
    · exact List.all_eq_true.mp okPat2 p h
    · exact List.all_eq_true.mp okPat3 p h
    · exact List.all_eq_true.mp okPat4 p h
  unfold okPat at q
  rw [Bool.and_eq_true, Bool.and_eq_true, Bool.and_eq_true, decide_eq_true_eq, decide_eq_true_eq, List.isPerm_iff] at q
  obtain ⟨⟨⟨a, b⟩, c⟩, d⟩ := q
  exact ⟨by simpa using h1, by simpa using h4, a, b, c, fun r hr => of_decide_eq_true (List.all_eq_true.mp d r hr)⟩
/-! the same on any records -/
section
variable {k : Nat} {p im : List Nat} {e : Nat → Nat}
theorem mem_map_inj (inj : ∀ i j, i < k → j < k → e i = e j → i = j) {l : List Nat} (hl : ∀ i ∈ l, i < k) {x : Nat} (hx : x < k) : e x ∈ l.map e ↔ x ∈ l := by
  rw [List.mem_map]
  constructor
  · rintro ⟨y, hy, q⟩
    rw [inj x y hx (hl y hy) q.symm]
    exact hy
  · exact fun h => ⟨x, h, rfl⟩
theorem filter_map_inj (inj : ∀ i j, i < k → j < k → e i = e j → i = j) {l m : List Nat} (hl : ∀ i ∈ l, i < k) (hm : ∀ i ∈ m, i < k) : (l.map e).filter (fun r => decide (r ∉ m.map e)) = (l.filter fun r => decide (r ∉ m)).map e := by
  rw [List.filter_map]
  congr 1
  refine List.filter_congr fun x hx => ?_
  show decide (e x ∉ m.map e) = decide (x ∉ m)
  rw [decide_eq_decide]
  exact not_congr (mem_map_inj inj hm (hl x hx))
theorem getD_map_e {l : List Nat} {i : Nat} (h : i < l.length) : (l.map e).getD i 0 = e (l.getD i 0) := by
  simp [List.getD_eq_getElem?_getD, h]
theorem lastD_map {l : List Nat} (h : l ≠ []) : lastD (l.map e) = e (lastD l) := by
  unfold lastD
  rw [List.length_map]
  have : 0 < l.length := List.length_pos_iff.mpr h
  exact getD_map_e (by omega)
theorem lastD_mem {l : List Nat} (h : l ≠ []) : lastD l ∈ l := by
  have : 0 < l.length := List.length_pos_iff.mpr h
  exact getD_mem (by omega)
theorem walk_map (inj : ∀ i j, i < k → j < k → e i = e j → i = j) (him : ∀ i, i < k → im.getD (e i) 0 = e (p.getD i 0)) (hp : ∀ i, i < k → p.getD i 0 < k) : ∀ (f : Nat) (path : List Nat), path ≠ [] → (∀ i ∈ path, i < k) →
    walkP im f (path.map e) = (walkP p f path).map e ∧ (∀ i ∈ walkP p f path, i < k) ∧ walkP p f path ≠ []
  | 0, path, hne, hlt => ⟨rfl, hlt, hne⟩
  | f + 1, path, hne, hlt => by
    have hl := hlt _ (lastD_mem hne)
    have hq := hp _ hl
    unfold walkP
    rw [lastD_map hne, him _ hl]
    by_cases c : p.getD (lastD path) 0 ∈ path
    · rw [if_pos c, if_pos ((mem_map_inj inj hlt hq).mpr c)]
      exact ⟨rfl, hlt, hne⟩
    · rw [if_neg c, if_neg (fun z => c ((mem_map_inj inj hlt hq).mp z))]
      have ih := walk_map inj him hp f (path ++ [p.getD (lastD path) 0]) (by simp) (fun i hi => by
        rcases List.mem_append.mp hi with z | z
        · exact hlt i z
        · rw [List.mem_singleton.mp z]; exact hq)
      rw [List.map_append] at ih
      exact ih
theorem form_map (h1 : 1 ≤ k) (inj : ∀ i j, i < k → j < k → e i = e j → i = j) (him : ∀ i, i < k → im.getD (e i) 0 = e (p.getD i 0)) (hp : ∀ i, i < k → p.getD i 0 < k) (ok : FormOk p (List.range k)) : FormOk im ((List.range k).map e) := by
  have hr : ∀ i ∈ List.range k, i < k := fun i hi => List.mem_range.mp hi
  have e1 : shownOf im ((List.range k).map e) = (shownOf p (List.range k)).map e := by
    unfold shownOf
    rw [List.map_map, List.map_map]
    exact List.map_congr_left fun i hi => him i (hr i hi)
  have hs : ∀ i ∈ shownOf p (List.range k), i < k := fun i hi => by
    unfold shownOf at hi
    obtain ⟨j, hj, q⟩ := List.mem_map.mp hi
    rw [← q]
    exact hp j (hr j hj)
  have e2 : unshown im ((List.range k).map e) = (unshown p (List.range k)).map e := by
    unfold unshown
    rw [e1]
    exact filter_map_inj inj hr hs
  have hu : ∀ i ∈ unshown p (List.range k), i < k := fun i hi => hr i (List.mem_filter.mp hi).1
  have e3 : startOf im ((List.range k).map e) = e (startOf p (List.range k)) ∧ startOf p (List.range k) < k := by
    unfold startOf
    rw [e2]
    by_cases c : unshown p (List.range k) = []
    · rw [if_pos c, if_pos (by rw [c]; rfl), getD_map_e (by rw [List.length_range]; exact h1)]
      refine ⟨rfl, hr _ (getD_mem (by rw [List.length_range]; exact h1))⟩
    · have : 0 < (unshown p (List.range k)).length := List.length_pos_iff.mpr c
      rw [if_neg c, if_neg (fun z => c (List.map_eq_nil_iff.mp z)), getD_map_e this]
      exact ⟨rfl, hu _ (getD_mem this)⟩
  obtain ⟨w1, w2, w3⟩ := walk_map inj him hp 4 [startOf p (List.range k)] (by simp) (fun i hi => by rw [List.mem_singleton.mp hi]; exact e3.2)
  have e4 : pathOf im ((List.range k).map e) = (pathOf p (List.range k)).map e := by
    unfold pathOf
    rw [e3.1]
    exact w1
  have hpa : ∀ i ∈ pathOf p (List.range k), i < k := w2
  have e5 : recsOf im ((List.range k).map e) = (recsOf p (List.range k)).map e := by
    unfold recsOf
    rw [e4, filter_map_inj inj hr hpa, List.map_append]
  have hrec : ∀ i ∈ recsOf p (List.range k), i < k := fun i hi => hr i (ok.perm.mem_iff.mp hi)
  have e6 : shapeOf im ((recsOf p (List.range k)).map e) = shapeOf p (recsOf p (List.range k)) := by
    unfold shapeOf
    rw [List.map_map]
    refine List.map_congr_left fun i hi => ?_
    show ((recsOf p (List.range k)).map e).idxOf (im.getD (e i) 0) = _
    rw [him i (hrec i hi)]
    have go : ∀ (l : List Nat) (x : Nat), (∀ i ∈ l, i < k) → x < k → (l.map e).idxOf (e x) = l.idxOf x := by
      intro l x hl hx
      induction l with
      | nil => rfl
      | cons y ys ih =>
        have hy := hl y List.mem_cons_self
        rw [List.map_cons, List.idxOf_cons, List.idxOf_cons, ih fun i hi => hl i (List.mem_cons_of_mem _ hi)]
        by_cases c : y = x
        · subst c; rw [beq_self_eq_true, beq_self_eq_true]
        · have : e y ≠ e x := fun q => c (inj y x hy hx q)
          rw [beq_false_of_ne this, beq_false_of_ne c]
    exact go _ _ hrec (hp i (hrec i hi))
  refine ⟨by simpa using h1, by simpa using ok.l4, ?_, ?_, ?_, ?_⟩
  · have w3 : pathOf p (List.range k) ≠ [] := w3
    rw [e4, lastD_map w3, him _ (hpa _ (lastD_mem w3))]
    exact (mem_map_inj inj hpa (hp _ (hpa _ (lastD_mem w3)))).mpr ok.stop
  · rw [e5]
    exact ok.perm.map e
  · rw [e5, e6]
    exact ok.shape
  · rw [e5]
    intro r hr'
    obtain ⟨i, hi, q⟩ := List.mem_map.mp hr'
    rw [← q, him i (hrec i hi)]
    exact List.mem_map_of_mem (ok.inn i hi)
end
theorem map_getD (l : List Nat) : (List.range l.length).map (fun i => l.getD i 0) = l := by
  refine List.ext_getElem (by simp) fun i h1 h2 => ?_
  simp [List.getD_eq_getElem?_getD, h2]
theorem getD_inj {l : List Nat} (hn : l.Nodup) : ∀ i j, i < l.length → j < l.length → l.getD i 0 = l.getD j 0 → i = j := by
  intro i j hi hj e
  simp [List.getD_eq_getElem?_getD, hi, hj] at e
  exact (List.getElem_inj hn).mp e
/-- a piece's form is found -/
theorem form_img {n : Nat} {ps : List Pc} {im : List Nat} (v : Val (List.range n) ps) (h : IsImg n ps im) {pc : Pc} (hp : pc ∈ ps) : FormOk im pc.1 := by
  have ok := val_ok v pc hp
  have hn : pc.1.Nodup := List.Sublist.nodup ok.sub (range_nodup n)
  have := form_map (k := pc.1.length) (p := pat pc.1.length pc.2) (im := im) (e := fun i => pc.1.getD i 0) ok.l1 (getD_inj hn) (fun i hi => img_getD h hp hi) (fun i hi => patD_lt ok.l1 ok.l4 ok.pl hi) (formPat ok.l1 ok.l4 (pat_mem ok.l1 ok.l4 ok.pl))
  rw [map_getD] at this
  exact this
/-! the law's own look at a group -/
def longer (g : List Nat) (rows : List (List Nat)) : List (List Nat) := rows.flatMap fun row => (g.filter fun a => decide (a ∉ row)).map fun a => row ++ [a]
def rowsTo (g : List Nat) : Nat → List (List Nat)
  | 0 => [[]]
  | j + 1 => longer g (rowsTo g j)
def fits (im row f : List Nat) : Bool := decide (f.length = row.length) && decide (row.map (fun a => im.getD a 0) = f.map fun i => row.getD i 0)
def hasForm (im g : List Nat) : Bool := decide (g.length ≤ 4) && (rowsTo g g.length).any fun row => shp.any fun f => fits im row f
theorem mem_rows {g : List Nat} : ∀ (j : Nat) (row : List Nat), row.length = j → row.Nodup → (∀ a ∈ row, a ∈ g) → row ∈ rowsTo g j
  | 0, row, hl, _, _ => by
    rw [List.length_eq_zero_iff.mp hl]
    exact List.mem_singleton.mpr rfl
  | j + 1, row, hl, hn, hs => by
    have hne : row ≠ [] := fun e => by rw [e] at hl; cases hl
    obtain ⟨ini, a, rfl⟩ : ∃ ini a, row = ini ++ [a] := ⟨row.dropLast, row.getLast hne, (List.dropLast_concat_getLast hne).symm⟩
    rw [List.length_append] at hl
    rw [List.nodup_append] at hn
    obtain ⟨n1, n2, n3⟩ := hn
    have ih := mem_rows j ini (by simpa using hl) n1 fun b hb => hs b (List.mem_append_left _ hb)
    show _ ∈ longer g (rowsTo g j)
    unfold longer
    rw [List.mem_flatMap]
    refine ⟨ini, ih, List.mem_map.mpr ⟨a, List.mem_filter.mpr ⟨hs a (List.mem_append_right _ (List.mem_singleton.mpr rfl)), decide_eq_true fun z => ?_⟩, rfl⟩⟩
    exact n3 a z a (List.mem_singleton.mpr rfl) rfl
theorem hasForm_of {im g : List Nat} (hn : g.Nodup) (ok : FormOk im g) : hasForm im g = true := by
  unfold hasForm
  rw [decide_eq_true ok.l4, Bool.true_and, List.any_eq_true]
  have nr : (recsOf im g).Nodup := ok.perm.nodup_iff.mpr hn
  refine ⟨recsOf im g, mem_rows _ _ ok.perm.length_eq nr fun a ha => ok.perm.mem_iff.mp ha, ?_⟩
  rw [List.any_eq_true]
  refine ⟨_, ok.shape, ?_⟩
  unfold fits
  rw [Bool.and_eq_true, decide_eq_true_eq, decide_eq_true_eq]
  refine ⟨by simp [shapeOf], ?_⟩
  unfold shapeOf
  rw [List.map_map]
  refine List.map_congr_left fun r hr => ?_
  have hm := ok.inn r hr
  show im.getD r 0 = (recsOf im g).getD ((recsOf im g).idxOf (im.getD r 0)) 0
  rw [List.getD_eq_getElem?_getD (l := recsOf im g), List.getElem?_eq_getElem (List.idxOf_lt_length_of_mem hm), List.getElem_idxOf]
  rfl
/-! the number of a set of places -/
def sumCh (n r : Nat) : Nat → Nat → Nat
  | _, 0 => 0
  | lo, m + 1 => ch (n - 1 - lo) r + sumCh n r (lo + 1) m
/-- from the place lo on -/
def setN (n : Nat) : Nat → List Nat → Nat
  | _, [] => 0
  | lo, y :: ys => sumCh n ys.length lo (y - lo) + setN n (y + 1) ys
theorem rank_range (n : Nat) : ∀ (m lo : Nat) (ys : List Nat), lo + m = n → ys.Sublist (List.range' lo m) → rankL (List.range' lo m) ys = setN n lo ys
  | m, lo, [], _, _ => rankL_nil _
  | 0, lo, y :: ys, hm, h => by cases h
  | m + 1, lo, y :: ys, hm, h => by
    rw [List.range'_succ] at h ⊢
    unfold rankL
    by_cases c : lo = y
    · subst c
      rw [if_pos rfl, rank_range n m (lo + 1) ys (by omega) (List.cons_sublist_cons.mp h)]
      show _ = sumCh n ys.length lo (lo - lo) + setN n (lo + 1) ys
      rw [Nat.sub_self]
      show _ = 0 + _
      omega
    · have h' : (y :: ys).Sublist (List.range' (lo + 1) m) := by
        cases h with
        | cons _ h => exact h
        | cons_cons _ h => exact absurd rfl c
      have hy : lo + 1 ≤ y := by
        have := h'.subset List.mem_cons_self
        rw [List.mem_range'_1] at this
        exact this.1
      rw [if_neg c, rank_range n m (lo + 1) (y :: ys) (by omega) h', List.length_range']
      show ch m ys.length + (sumCh n ys.length (lo + 1) (y - (lo + 1)) + setN n (y + 1) ys) = sumCh n ys.length lo (y - lo) + setN n (y + 1) ys
      have e : y - lo = (y - (lo + 1)) + 1 := by omega
      rw [e]
      show _ = (ch (n - 1 - lo) ys.length + sumCh n ys.length (lo + 1) (y - (lo + 1))) + _
      have e2 : n - 1 - lo = m := by omega
      rw [e2]
      omega
theorem rank_map {e : Nat → Nat} : ∀ (xs ys : List Nat), (∀ x ∈ xs, ∀ y ∈ ys, e x = e y → x = y) → rankL (xs.map e) (ys.map e) = rankL xs ys
  | xs, [], _ => by rw [List.map_nil, rankL_nil, rankL_nil]
  | [], y :: ys, _ => rfl
  | x :: xs, y :: ys, h => by
    show (if e x = e y then rankL (xs.map e) (ys.map e) else ch (xs.map e).length (ys.map e).length + rankL (xs.map e) ((y :: ys).map e)) = if x = y then rankL xs ys else ch xs.length ys.length + rankL xs (y :: ys)
    by_cases c : x = y
    · rw [if_pos c, if_pos (by rw [c])]
      exact rank_map xs ys fun a ha b hb => h a (List.mem_cons_of_mem _ ha) b (List.mem_cons_of_mem _ hb)
    · rw [if_neg c, if_neg (fun q => c (h x List.mem_cons_self y List.mem_cons_self q)), List.length_map, List.length_map]
      rw [rank_map xs (y :: ys) fun a ha b hb => h a (List.mem_cons_of_mem _ ha) b hb]
theorem sub_map {e : Nat → Nat} : ∀ (xs : List Nat) (r num : Nat), subL (xs.map e) r num = (subL xs r num).map e
  | xs, 0, num => by rw [subL_zero, subL_zero]; rfl
  | [], r + 1, num => rfl
  | x :: xs, r + 1, num => by
    show (if num < ch (xs.map e).length r then e x :: subL (xs.map e) r num else subL (xs.map e) (r + 1) (num - ch (xs.map e).length r)) = (if num < ch xs.length r then x :: subL xs r num else subL xs (r + 1) (num - ch xs.length r)).map e
    rw [List.length_map]
    split
    · rw [sub_map xs r num]; rfl
    · exact sub_map xs (r + 1) _
end K4
end
section
namespace K4
def chF (m k : Nat) : Nat := match k with | 0 => 1 | 1 => m | 2 => m * (m - 1) / 2 | _ => m * (m - 1) * (m - 2) / 6
theorem ch_one : ∀ m, ch m 1 = m
  | 0 => rfl
  | m + 1 => by
    show ch m 0 + ch m 1 = m + 1
    rw [ch_zero, ch_one m]
    omega
theorem ch_two : ∀ m, 2 * ch m 2 = m * (m - 1)
  | 0 => rfl
  | m + 1 => by
    show 2 * (ch m 1 + ch m 2) = (m + 1) * m
    rw [ch_one, Nat.mul_add, ch_two m]
    cases m with
    | zero => rfl
    | succ m =>
      show 2 * (m + 1) + (m + 1) * m = (m + 2) * (m + 1)
      rw [Nat.add_mul m 2 (m + 1), Nat.mul_comm (m + 1) m]
      omega
theorem ch_three : ∀ m, 6 * ch m 3 = m * (m - 1) * (m - 2)
  | 0 => rfl
  | m + 1 => by
    show 6 * (ch m 2 + ch m 3) = (m + 1) * m * (m - 1)
    rw [Nat.mul_add, ch_three m, show 6 * ch m 2 = 3 * (2 * ch m 2) by omega, ch_two]
    cases m with
    | zero => rfl
    | succ m =>
      show 3 * ((m + 1) * m) + (m + 1) * m * (m - 1) = (m + 2) * (m + 1) * m
      cases m with
      | zero => rfl
      | succ m =>
        show 3 * ((m + 2) * (m + 1)) + (m + 2) * (m + 1) * m = (m + 3) * (m + 2) * (m + 1)
        rw [Nat.mul_assoc (m + 3), Nat.add_mul m 3 ((m + 2) * (m + 1)), Nat.mul_comm m]
        omega
theorem ch_F {m k : Nat} (h : k < 4) : ch m k = chF m k := by
  rcases (by omega : k = 0 ∨ k = 1 ∨ k = 2 ∨ k = 3) with rfl | rfl | rfl | rfl
  · exact ch_zero m
  · exact ch_one m
  · have := ch_two m
    show ch m 2 = m * (m - 1) / 2
    omega
  · have := ch_three m
    show ch m 3 = m * (m - 1) * (m - 2) / 6
    omega
theorem ch_small : ∀ {m k : Nat}, m < 64 → k < 4 → ch m k < 41665 := by
  intro m k hm hk
  rw [ch_F hk]
  have : ∀ m, m < 64 → ∀ k, k < 4 → chF m k < 41665 := by decide +kernel
  exact this m hm k hk
/-- the law's own totals -/
theorem T_law {n : Nat} (hn : 0 < n) : T n = T (n - 1) + (if 1 < n then 3 * (n - 1) * T (n - 2) else 0) + (if 2 < n then 6 * (n - 1) * (n - 2) * T (n - 3) else 0) + (if 3 < n then 7 * (n - 1) * (n - 2) * (n - 3) * T (n - 4) else 0) := by
  rw [T_eq hn]
  obtain ⟨m, rfl⟩ : ∃ m, n = m + 1 := ⟨n - 1, by omega⟩
  have b1 : blk (m + 1) 1 = T m := by unfold blk; rw [ch_zero]; simp [F]
  have b2 : blk (m + 1) 2 = 3 * m * T (m - 1) := by
    unfold blk
    show ch m 1 * F 2 * T (m - 1) = _
    rw [ch_one, show F 2 = 3 by rfl, Nat.mul_comm m 3]
  have b3 : blk (m + 1) 3 = 6 * m * (m - 1) * T (m - 2) := by
    unfold blk
    show ch m 2 * F 3 * T (m - 2) = _
    rw [show F 3 = 6 * 2 by rfl, show ch m 2 * (6 * 2) = 6 * (2 * ch m 2) by omega, ch_two]
    simp only [Nat.mul_assoc]
  have b4 : blk (m + 1) 4 = 7 * m * (m - 1) * (m - 2) * T (m - 3) := by
    unfold blk
    show ch m 3 * F 4 * T (m - 3) = _
    rw [show F 4 = 7 * 6 by rfl, show ch m 3 * (7 * 6) = 7 * (6 * ch m 3) by omega, ch_three]
    simp only [Nat.mul_assoc]
  rw [b1, b2, b3, b4]
  show _ = T m + (if 1 < m + 1 then 3 * m * T (m - 1) else 0) + (if 2 < m + 1 then 6 * m * (m - 1) * T (m - 2) else 0) + (if 3 < m + 1 then 7 * m * (m - 1) * (m - 2) * T (m - 3) else 0)
  by_cases c1 : 1 < m + 1
  · rw [if_pos c1]
    by_cases c2 : 2 < m + 1
    · rw [if_pos c2]
      by_cases c3 : 3 < m + 1
      · rw [if_pos c3]
      · rw [if_neg c3]
        have : m - 2 = 0 := by omega
        rw [this]
        simp
    · rw [if_neg c2, if_neg (by omega)]
      have : m - 1 = 0 := by omega
      rw [this]
      simp
  · have : m = 0 := by omega
    subst this
    simp
end K4
end
section
namespace K4
theorem range_cons {lo m : Nat} (h : 0 < m) : List.range' lo m = lo :: List.range' (lo + 1) (m - 1) := by
  obtain ⟨k, rfl⟩ : ∃ k, m = k + 1 := ⟨m - 1, by omega⟩
  exact List.range'_succ
theorem drop_cons {l : List Nat} {i : Nat} (h : i < l.length) : l.drop i = l.getD i 0 :: l.drop (i + 1) := by
  rw [List.drop_eq_getElem_cons h]
  simp [List.getD_eq_getElem?_getD, h]
/-- a search's turn -/
theorem at_more {n place r num : Nat} (h : num < ch (n - place) (r + 1)) (hge : ch (n - 1 - place) r ≤ num) :
    place < n ∧ subL (List.range' place (n - place)) (r + 1) num = subL (List.range' (place + 1) (n - (place + 1))) (r + 1) (num - ch (n - 1 - place) r) ∧ num - ch (n - 1 - place) r < ch (n - (place + 1)) (r + 1) := by
  have hp : place < n := by
    rcases Nat.lt_or_ge place n with c | c
    · exact c
    · rw [show n - place = 0 by omega] at h
      simp [ch] at h
  have e : n - place = (n - 1 - place) + 1 := by omega
  have e2 : n - (place + 1) = n - 1 - place := by omega
  refine ⟨hp, ?_, ?_⟩
  · rw [range_cons (show 0 < n - place by omega), show n - place - 1 = n - (place + 1) by omega]
    show (if num < ch (List.range' (place + 1) (n - (place + 1))).length r then _ else _) = _
    rw [List.length_range', e2, if_neg (by omega)]
  · rw [e] at h
    have : ch (n - 1 - place + 1) (r + 1) = ch (n - 1 - place) r + ch (n - 1 - place) (r + 1) := rfl
    rw [e2]
    omega
theorem at_stop {n place r num : Nat} (h : num < ch (n - place) (r + 1)) (hlt : num < ch (n - 1 - place) r) :
    place < n ∧ subL (List.range' place (n - place)) (r + 1) num = place :: subL (List.range' (place + 1) (n - (place + 1))) r num := by
  have hp : place < n := by
    rcases Nat.lt_or_ge place n with c | c
    · exact c
    · rw [show n - place = 0 by omega] at h
      simp [ch] at h
  refine ⟨hp, ?_⟩
  rw [range_cons (show 0 < n - place by omega), show n - place - 1 = n - (place + 1) by omega]
  show (if num < ch (List.range' (place + 1) (n - (place + 1))).length r then _ else _) = _
  rw [List.length_range', if_pos (by rw [show n - (place + 1) = n - 1 - place by omega]; exact hlt)]
end K4
end
section
namespace K4
/-! ### images that are built block by block -/
def pl1 : List (List Nat) := [[0]]
def pl2 : List (List Nat) := [[0, 0], [1, 0], [1, 1]]
def pl3 : List (List Nat) := [[0, 0, 1], [0, 2, 0], [1, 0, 0], [1, 0, 1], [1, 1, 0], [1, 2, 1], [1, 2, 2], [2, 0, 0], [2, 0, 2], [2, 1, 1], [2, 2, 0], [2, 2, 1]]
def pl4 : List (List Nat) := [[1, 0, 0, 1], [1, 0, 0, 2], [1, 0, 1, 0], [1, 0, 1, 2], [1, 0, 3, 0], [1, 0, 3, 1], [1, 2, 1, 0], [1, 2, 1, 2], [1, 2, 3, 0], [1, 2, 3, 2], [1, 3, 0, 1], [1, 3, 0, 2], [1, 3, 3, 1], [1, 3, 3, 2], [2, 0, 0, 1], [2, 0, 0, 2], [2, 0, 3, 1], [2, 0, 3, 2], [2, 2, 0, 0], [2, 2, 0, 1], [2, 2, 1, 0], [2, 2, 1, 1], [2, 3, 0, 0], [2, 3, 0, 2], [2, 3, 1, 0], [2, 3, 1, 1], [2, 3, 3, 1], [2, 3, 3, 2], [3, 0, 1, 0], [3, 0, 1, 2], [3, 0, 3, 0], [3, 0, 3, 2], [3, 2, 0, 0], [3, 2, 0, 1], [3, 2, 1, 1], [3, 2, 1, 2], [3, 2, 3, 0], [3, 2, 3, 2], [3, 3, 0, 0], [3, 3, 0, 1], [3, 3, 1, 0], [3, 3, 1, 1]]
theorem pats_is1 : pats 1 = pl1 := by decide +kernel
theorem pats_is2 : pats 2 = pl2 := by decide +kernel
theorem pats_is3 : pats 3 = pl3 := by decide +kernel
theorem pats_is4 : pats 4 = pl4 := by decide +kernel
def okQ (P : List (List Nat)) (q : List Nat) : Bool := shp.all fun f => !decide (f.length = q.length) || (decide (names f q ∈ P) && (List.range q.length).all fun j => decide ((names f q).getD (q.getD j 0) 0 = q.getD (f.getD j 0) 0))
theorem fin1 : ∀ a, a < 1 → okQ pl1 [a] = true := by decide +kernel
theorem fin2 : ∀ a, a < 2 → ∀ b, b < 2 → a ≠ b → okQ pl2 [a, b] = true := by decide +kernel
theorem fin3 : ∀ a, a < 3 → ∀ b, b < 3 → ∀ c, c < 3 → (a ≠ b ∧ a ≠ c ∧ b ≠ c) → okQ pl3 [a, b, c] = true := by decide +kernel
def ok4 (a b c d : Nat) : Bool := (decide (a = b) || decide (a = c) || decide (b = c) || decide (a = d) || decide (b = d) || decide (c = d)) || okQ pl4 [a, b, c, d]
theorem fin4' : ∀ a, a < 4 → ∀ b, b < 4 → ∀ c, c < 4 → ∀ d, d < 4 → ok4 a b c d = true := by decide +kernel
theorem fin4 (a : Nat) (ha : a < 4) (b : Nat) (hb : b < 4) (c : Nat) (hc : c < 4) (d : Nat) (hd : d < 4) (h : a ≠ b ∧ a ≠ c ∧ b ≠ c ∧ a ≠ d ∧ b ≠ d ∧ c ≠ d) : okQ pl4 [a, b, c, d] = true := by
  have := fin4' a ha b hb c hc d hd
  unfold ok4 at this
  rw [decide_eq_false h.1, decide_eq_false h.2.1, decide_eq_false h.2.2.1, decide_eq_false h.2.2.2.1, decide_eq_false h.2.2.2.2.1, decide_eq_false h.2.2.2.2.2] at this
  exact this
theorem fin_ok {q : List Nat} (h1 : 1 ≤ q.length) (h4 : q.length ≤ 4) (hlt : ∀ x ∈ q, x < q.length) (hn : q.Nodup) : okQ (pats q.length) q = true := by
  match q with
  | [] => simp at h1
  | [a] =>
    show okQ (pats 1) _ = true
    rw [pats_is1]
    exact fin1 a (hlt a (by simp))
  | [a, b] =>
    show okQ (pats 2) _ = true
    rw [pats_is2]
    simp at hn
    exact fin2 a (hlt a (by simp)) b (hlt b (by simp)) hn
  | [a, b, c] =>
    show okQ (pats 3) _ = true
    rw [pats_is3]
    simp at hn
    exact fin3 a (hlt a (by simp)) b (hlt b (by simp)) c (hlt c (by simp)) ⟨hn.1.1, hn.1.2, hn.2⟩
  | [a, b, c, d] =>
    show okQ (pats 4) _ = true
    rw [pats_is4]
    simp at hn
    exact fin4 a (hlt a (by simp)) b (hlt b (by simp)) c (hlt c (by simp)) d (hlt d (by simp)) ⟨hn.1.1, hn.1.2.1, hn.2.1.1, hn.1.2.2, hn.2.1.2, hn.2.2⟩
  | _ :: _ :: _ :: _ :: _ :: _ => simp at h4
theorem okQ_of {P : List (List Nat)} {q f : List Nat} (h : okQ P q = true) (hf : f ∈ shp) (hl : f.length = q.length) : names f q ∈ P ∧ ∀ j, j < q.length → (names f q).getD (q.getD j 0) 0 = q.getD (f.getD j 0) 0 := by
  unfold okQ at h
  have := List.all_eq_true.mp h f hf
  rw [decide_eq_true hl, Bool.not_true, Bool.false_or, Bool.and_eq_true] at this
  exact ⟨of_decide_eq_true this.1, fun j hj => of_decide_eq_true (List.all_eq_true.mp this.2 j (List.mem_range.mpr hj))⟩
theorem shp_ok : shp.all (fun f => decide (1 ≤ f.length) && decide (f.length ≤ 4) && f.all fun x => decide (x < f.length)) = true := by decide +kernel
theorem shp_of {f : List Nat} (h : f ∈ shp) : 1 ≤ f.length ∧ f.length ≤ 4 ∧ ∀ x ∈ f, x < f.length := by
  have := List.all_eq_true.mp shp_ok f h
  rw [Bool.and_eq_true, Bool.and_eq_true] at this
  exact ⟨of_decide_eq_true this.1.1, of_decide_eq_true this.1.2, fun x hx => of_decide_eq_true (List.all_eq_true.mp this.2 x hx)⟩
structure Block (im r f : List Nat) : Prop where
  hf : f ∈ shp
  hl : f.length = r.length
  at' : ∀ j, j < r.length → im[r.getD j 0]? = some (r.getD (f.getD j 0) 0)
theorem getD_in {l : List Nat} {i : Nat} (h : i < l.length) : l.getD i 0 = l[i] := by simp [List.getD_eq_getElem?_getD, h]
theorem idx_get {l : List Nat} {x : Nat} (h : x ∈ l) : l.idxOf x < l.length ∧ l.getD (l.idxOf x) 0 = x := by
  have h1 := List.idxOf_lt_length_of_mem h
  exact ⟨h1, by rw [getD_in h1]; exact List.getElem_idxOf h1⟩
theorem idx_nodup {l : List Nat} (hn : l.Nodup) {i : Nat} (h : i < l.length) : l.idxOf (l.getD i 0) = i := by
  rw [getD_in h]
  exact hn.idxOf_getElem i h
theorem block_pc {im r f recs : List Nat} (hn : recs.Nodup) (hp : r.Perm recs) (b : Block im r f) : ∃ pl, pl < F recs.length ∧ Shows im (recs, pl) := by
  have hlen := hp.length_eq
  obtain ⟨l1, l4, lf⟩ := shp_of b.hf
  have nr : r.Nodup := hp.nodup_iff.mpr hn
  let q := r.map fun v => recs.idxOf v
  have ql : q.length = recs.length := by rw [List.length_map, hlen]
  have hin : ∀ j, j < r.length → r.getD j 0 ∈ recs := fun j hj => hp.mem_iff.mp (getD_mem hj)
  have qg : ∀ j, j < r.length → q.getD j 0 = recs.idxOf (r.getD j 0) := fun j hj => by
    show (r.map fun v => recs.idxOf v).getD j 0 = _
    simp [List.getD_eq_getElem?_getD, hj]
  have qlt : ∀ x ∈ q, x < q.length := fun x hx => by
    obtain ⟨v, hv, rfl⟩ := List.mem_map.mp hx
    rw [ql]
    exact (idx_get (hp.mem_iff.mp hv)).1
  have qn : q.Nodup := by
    refine List.pairwise_map.mpr (List.Pairwise.imp_of_mem (fun {x y} hx hy hxy e => hxy ?_) nr)
    have e1 := (idx_get (hp.mem_iff.mp hx)).2
    have e2 := (idx_get (hp.mem_iff.mp hy)).2
    rw [← e1, ← e2, e]
  have fl := b.hl
  have fin := okQ_of (fin_ok (q := q) (by omega) (by omega) qlt qn) b.hf (by omega)
  rw [ql] at fin
  obtain ⟨pl, hpl, e⟩ := List.getElem_of_mem fin.1
  have hF : (pats recs.length).length = F recs.length := pats_len (by omega) (by omega)
  have ep : pat recs.length pl = names f q := by
    unfold pat
    simp [List.getD_eq_getElem?_getD, hpl, e]
  refine ⟨pl, by omega, fun i hi => ?_⟩
  have hi : i < recs.length := hi
  show im[recs.getD i 0]? = some (recs.getD ((pat recs.length pl).getD i 0) 0)
  rw [ep]
  obtain ⟨j, hj, ej⟩ := List.getElem_of_mem (hp.mem_iff.mpr (getD_mem hi))
  have ej : r.getD j 0 = recs.getD i 0 := by rw [getD_in hj]; exact ej
  have qj : q.getD j 0 = i := by rw [qg j hj, ej, idx_nodup hn hi]
  have fj : f.getD j 0 < r.length := by
    rw [← fl]
    exact lf _ (getD_mem (by omega))
  rw [← ej, b.at' j hj, ← qj, fin.2 j (by omega), qg _ fj, (idx_get (hin _ fj)).2]
theorem blocks_val {im : List Nat} : ∀ (m : Nat) (bs : List (List Nat)) (left : List Nat), bs.length ≤ m → left.Pairwise (· < ·) → bs.flatten.Perm left → (∀ r ∈ bs, ∃ f, Block im r f) → ∃ ps, Val left ps ∧ ∀ pc ∈ ps, Shows im pc
  | m, bs, [], _, _, _, _ => ⟨[], Val_nil.mpr rfl, fun pc h => by cases h⟩
  | 0, bs, x :: xs, hm, _, hp, _ => by
    rw [List.eq_nil_of_length_eq_zero (Nat.le_zero.mp hm)] at hp
    exact absurd hp.length_eq (by simp)
  | m + 1, bs, x :: xs, hm, hw, hp, hb => by
    have nl : (x :: xs).Nodup := hw.imp fun h => Nat.ne_of_lt h
    obtain ⟨hx, nx⟩ := List.nodup_cons.mp nl
    obtain ⟨r, hr, hxr⟩ := List.mem_flatten.mp (hp.mem_iff.mpr (List.mem_cons_self (a := x) (l := xs)))
    have pe := List.perm_cons_erase hr
    have pf : (r ++ (bs.erase r).flatten).Perm (x :: xs) := by
      have := pe.flatten
      rw [List.flatten_cons] at this
      exact this.symm.trans hp
    have nf : (r ++ (bs.erase r).flatten).Nodup := pf.nodup_iff.mpr nl
    obtain ⟨n1, n2, n3⟩ := List.nodup_append.mp nf
    have sub : ∀ y ∈ r, y ∈ x :: xs := fun y hy => pf.mem_iff.mp (List.mem_append.mpr (.inl hy))
    let ys := xs.filter fun y => decide (y ∈ r)
    have rp : r.Perm (x :: ys) := by
      refine (List.perm_ext_iff_of_nodup n1 ?_).mpr fun y => ⟨fun hy => ?_, fun hy => ?_⟩
      · exact List.nodup_cons.mpr ⟨fun h => hx (List.mem_filter.mp h).1, List.Sublist.nodup List.filter_sublist nx⟩
      · rcases List.mem_cons.mp (sub y hy) with e | e
        · rw [e]; exact List.mem_cons_self
        · exact List.mem_cons_of_mem _ (List.mem_filter.mpr ⟨e, decide_eq_true hy⟩)
      · rcases List.mem_cons.mp hy with e | e
        · rw [e]; exact hxr
        · exact of_decide_eq_true (List.mem_filter.mp e).2
    obtain ⟨f, bk⟩ := hb r hr
    obtain ⟨l1, l4, _⟩ := shp_of bk.hf
    have bl := bk.hl
    have rl := rp.length_eq
    obtain ⟨pl, hpl, hsh⟩ := block_pc (List.nodup_cons.mpr ⟨fun h => hx (List.mem_filter.mp h).1, List.Sublist.nodup List.filter_sublist nx⟩) rp bk
    have po : (bs.erase r).flatten.Perm (out xs ys) := by
      refine (List.perm_ext_iff_of_nodup n2 (out_nodup nx)).mpr fun y => ⟨fun hy => ?_, fun hy => ?_⟩
      · have nyr : y ∉ r := fun h => n3 y h y hy rfl
        have m0 := pf.mem_iff.mp (List.mem_append.mpr (.inr hy))
        rcases List.mem_cons.mp m0 with e | e
        · exact absurd (e ▸ hxr) nyr
        · refine List.mem_filter.mpr ⟨e, decide_eq_true fun h => nyr (of_decide_eq_true (List.mem_filter.mp h).2)⟩
      · obtain ⟨h1, h2⟩ := List.mem_filter.mp hy
        have h2 := of_decide_eq_true h2
        rcases List.mem_append.mp (pf.mem_iff.mpr (List.mem_cons_of_mem _ h1)) with e | e
        · exact absurd (List.mem_filter.mpr ⟨h1, decide_eq_true e⟩) h2
        · exact e
    have hle : (bs.erase r).length ≤ m := by
      rw [List.length_erase_of_mem hr]
      omega
    obtain ⟨ps, hv, hs⟩ := blocks_val m (bs.erase r) (out xs ys) hle (List.Pairwise.sublist (out_sub _ _) (List.pairwise_cons.mp hw).2) po fun r' h => hb r' (List.mem_of_mem_erase h)
    refine ⟨(x :: ys, pl) :: ps, Val_cons.mpr ⟨ys, rfl, List.filter_sublist, ?_, hpl, hv⟩, fun pc h => ?_⟩
    · simp only [List.length_cons] at rl
      omega
    · rcases List.mem_cons.mp h with e | e
      · rw [e]; exact hsh
      · exact hs pc e
/-! the law's own building -/
def fm (c : Nat) : List Nat := shp.getD c []
def lens (cs : List Nat) : Nat := (cs.map fun c => (fm c).length).sum
def tg : List Nat → List Nat
  | [] => []
  | c :: cs => fm c ++ (tg cs).map (· + (fm c).length)
theorem lens_cons (c : Nat) (cs : List Nat) : lens (c :: cs) = (fm c).length + lens cs := by simp [lens]
theorem tg_len : ∀ cs, (tg cs).length = lens cs
  | [] => rfl
  | c :: cs => by rw [tg, List.length_append, List.length_map, tg_len cs, lens_cons]
theorem tg_get : ∀ (cs : List Nat) (j k c : Nat), cs[j]? = some c → k < (fm c).length → (tg cs).getD (lens (cs.take j) + k) 0 = lens (cs.take j) + (fm c).getD k 0
  | [], j, k, c, h, _ => by cases h
  | c0 :: cs, 0, k, c, h, hk => by
    cases h
    show (fm c0 ++ (tg cs).map (· + (fm c0).length)).getD (0 + k) 0 = 0 + (fm c0).getD k 0
    rw [Nat.zero_add, Nat.zero_add, List.getD_eq_getElem?_getD, List.getElem?_append_left hk, ← List.getD_eq_getElem?_getD]
  | c0 :: cs, j + 1, k, c, h, hk => by
    have ih := tg_get cs j k c h hk
    rw [List.take_succ_cons, lens_cons, tg, List.getD_eq_getElem?_getD, List.getElem?_append_right (by omega)]
    have hlt : lens (cs.take j) + k < (tg cs).length := by
      rw [tg_len]
      have hj : j < cs.length := Nat.lt_of_succ_lt_succ (List.getElem?_eq_some_iff.mp h).1
      have ec : cs[j] = c := by
        have := (List.getElem?_eq_some_iff.mp h).2
        exact this
      have : lens cs = lens (cs.take j) + ((fm c).length + lens (cs.drop (j + 1))) := by
        conv => lhs; rw [← List.take_append_drop j cs]
        rw [lens, List.map_append, List.sum_append, List.drop_eq_getElem_cons hj, ec]
        simp [lens]
      omega
    have e : (fm c0).length + lens (cs.take j) + k - (fm c0).length = lens (cs.take j) + k := by omega
    rw [e, List.getElem?_map]
    rw [getD_in hlt] at ih
    simp [hlt, ih]
    omega
def cut : List Nat → List Nat → List (List Nat)
  | _, [] => []
  | o, c :: cs => o.take (fm c).length :: cut (o.drop (fm c).length) cs
theorem cut_flat : ∀ (cs o : List Nat), o.length = lens cs → (cut o cs).flatten = o
  | [], o, h => by
    rw [List.eq_nil_of_length_eq_zero h]
    rfl
  | c :: cs, o, h => by
    rw [lens_cons] at h
    rw [cut, List.flatten_cons, cut_flat cs _ (by rw [List.length_drop]; omega), List.take_append_drop]
theorem cut_ok {im : List Nat} : ∀ (cs o : List Nat), o.length = lens cs → (∀ c ∈ cs, c < 8) → (∀ t, t < o.length → im[o.getD t 0]? = some (o.getD ((tg cs).getD t 0) 0)) → ∀ r ∈ cut o cs, ∃ f, Block im r f
  | [], o, _, _, _, r, hr => by cases hr
  | c :: cs, o, h, h8, hi, r, hr => by
    rw [lens_cons] at h
    have hs : fm c ∈ shp := by
      have hc := h8 c List.mem_cons_self
      have : c < shp.length := hc
      unfold fm
      rw [List.getD_eq_getElem?_getD, List.getElem?_eq_getElem this]
      exact List.getElem_mem this
    obtain ⟨_, _, lf⟩ := shp_of hs
    rcases List.mem_cons.mp hr with e | e
    · subst e
      have tl : (o.take (fm c).length).length = (fm c).length := by rw [List.length_take]; omega
      refine ⟨fm c, hs, tl.symm, fun j hj => ?_⟩
      rw [tl] at hj
      have hfj : (fm c).getD j 0 < (fm c).length := lf _ (getD_mem hj)
      have a1 : (o.take (fm c).length).getD j 0 = o.getD j 0 := by simp [List.getD_eq_getElem?_getD, hj]
      have a2 : (o.take (fm c).length).getD ((fm c).getD j 0) 0 = o.getD ((fm c).getD j 0) 0 := by
        rw [List.getD_eq_getElem?_getD, List.getElem?_take_of_lt hfj, ← List.getD_eq_getElem?_getD]
      have a3 : (tg (c :: cs)).getD j 0 = (fm c).getD j 0 := by
        rw [tg, List.getD_eq_getElem?_getD, List.getElem?_append_left hj, ← List.getD_eq_getElem?_getD]
      rw [a1, a2, hi j (by omega), a3]
    · refine cut_ok cs (o.drop (fm c).length) (by rw [List.length_drop]; omega) (fun c' h' => h8 c' (List.mem_cons_of_mem _ h')) (fun t ht => ?_) r e
      rw [List.length_drop] at ht
      have d : ∀ i, (o.drop (fm c).length).getD i 0 = o.getD ((fm c).length + i) 0 := fun i => by simp [List.getD_eq_getElem?_getD]
      rw [d, d, hi _ (by omega)]
      have ht2 : t < (tg cs).length := by rw [tg_len]; omega
      have : (tg (c :: cs)).getD ((fm c).length + t) 0 = (fm c).length + (tg cs).getD t 0 := by
        rw [tg, List.getD_eq_getElem?_getD, List.getElem?_append_right (by omega), show (fm c).length + t - (fm c).length = t by omega, List.getElem?_map]
        simp [ht2]
        omega
      rw [this]
theorem built_img {im o cs : List Nat} (h8 : ∀ c ∈ cs, c < 8) (hp : o.Perm (List.range (lens cs))) (hl : im.length = lens cs) (hi : ∀ t, t < lens cs → im[o.getD t 0]? = some (o.getD ((tg cs).getD t 0) 0)) : ∃ ps, Val (List.range im.length) ps ∧ IsImg im.length ps im := by
  have ol : o.length = lens cs := by rw [hp.length_eq, List.length_range]
  obtain ⟨ps, hv, hs⟩ := blocks_val (im := im) _ (cut o cs) (List.range (lens cs)) (Nat.le_refl _) (range_pw _) (by rw [cut_flat cs o ol]; exact hp) (cut_ok cs o ol h8 (fun t ht => hi t (by omega)))
  rw [hl]
  exact ⟨ps, hv, hl, hs⟩
end K4
end
section
namespace K4
/-! ### places among the records left -/
theorem getD_in' {l : List Nat} {i : Nat} (h : i < l.length) : l.getD i 0 = l[i] := by simp [List.getD_eq_getElem?_getD, h]
theorem idx_range {l : List Nat} (hn : l.Nodup) : l.map l.idxOf = List.range l.length := by
  refine List.ext_getElem (by simp) fun i h1 h2 => ?_
  rw [List.getElem_map, List.getElem_range]
  rw [List.length_map] at h1
  exact hn.idxOf_getElem i h1
theorem getD_idx {l : List Nat} {x : Nat} (h : x ∈ l) : l.getD (l.idxOf x) 0 = x := by
  have h1 := List.idxOf_lt_length_of_mem h
  rw [getD_in' h1]
  exact List.getElem_idxOf h1
structure SetRank (x : Nat) (xs ys : List Nat) : Prop where
  zero : ((x :: ys).map (x :: xs).idxOf).getD 0 0 = 0
  inc : ((x :: ys).map (x :: xs).idxOf).Pairwise (· < ·)
  lt : ∀ p ∈ (x :: ys).map (x :: xs).idxOf, p < (x :: xs).length
  num : setN (x :: xs).length (((x :: ys).map (x :: xs).idxOf).getD 0 0 + 1) ((x :: ys).map (x :: xs).idxOf).tail = rankL xs ys
theorem set_rank {x : Nat} {xs ys : List Nat} (hn : (x :: xs).Nodup) (hs : ys.Sublist xs) : SetRank x xs ys := by
  have ir := idx_range hn
  have e0 : (x :: xs).idxOf x = 0 := by rw [List.idxOf_cons]; simp
  have exs : xs.map (x :: xs).idxOf = List.range' 1 xs.length := by
    rw [List.map_cons, List.length_cons, List.range_succ_eq_map] at ir
    have := (List.cons.inj ir).2
    rw [this]
    exact List.ext_getElem (by simp) fun i h1 h2 => by simp [Nat.add_comm]
  have sub : ((x :: ys).map (x :: xs).idxOf).Sublist (List.range (x :: xs).length) := by
    rw [← ir]
    exact (List.cons_sublist_cons.mpr hs).map _
  have sy : (ys.map (x :: xs).idxOf).Sublist (List.range' 1 xs.length) := by
    rw [← exs]
    exact hs.map _
  have z : ((x :: ys).map (x :: xs).idxOf).getD 0 0 = 0 := by
    rw [List.map_cons, e0]
    rfl
  refine ⟨z, List.Pairwise.sublist sub (range_pw _), fun p hp => List.mem_range.mp (sub.subset hp), ?_⟩
  rw [z, List.map_cons, List.tail_cons, List.length_cons]
  rw [← rank_range (xs.length + 1) xs.length 1 (ys.map (x :: xs).idxOf) (by omega) sy]
  have hg : ∀ l : List Nat, (∀ v ∈ l, v ∈ x :: xs) → (l.map (x :: xs).idxOf).map (fun i => (x :: xs).getD i 0) = l := fun l hl => by
    rw [List.map_map]
    conv => rhs; rw [← List.map_id l]
    exact List.map_congr_left fun v hv => getD_idx (hl v hv)
  have h1 := hg xs fun v hv => List.mem_cons_of_mem _ hv
  have h2 := hg ys fun v hv => List.mem_cons_of_mem _ (hs.subset hv)
  rw [exs] at h1
  conv => rhs; rw [← h1, ← h2]
  refine (rank_map _ _ fun a ha b hb e => ?_).symm
  have la : a < (x :: xs).length := by
    have := List.mem_range'_1.mp ha
    rw [List.length_cons]
    omega
  have lb : b < (x :: xs).length := by
    have := List.mem_range'_1.mp (sy.subset hb)
    rw [List.length_cons]
    omega
  exact getD_inj hn a b la lb e
/-- the records of the places -/
theorem recs_at (x : Nat) (xs : List Nat) (r num : Nat) : (0 :: subL (List.range' 1 xs.length) r num).map (fun i => (x :: xs).getD i 0) = x :: subL xs r num := by
  rw [List.map_cons, ← sub_map]
  have : (List.range' 1 xs.length).map (fun i => (x :: xs).getD i 0) = xs := by
    refine List.ext_getElem (by simp) fun i h1 h2 => ?_
    rw [List.getElem_map, List.getElem_range', getD_in' (by rw [List.length_cons]; omega)]
    simp [Nat.add_comm 1 i]
  rw [this]
  rfl
/-- a piece's pattern is read off -/
theorem pat_read {im : List Nat} {pc : Pc} (hn : pc.1.Nodup) (l1 : 1 ≤ pc.1.length) (l4 : pc.1.length ≤ 4) (pl : pc.2 < F pc.1.length) (sh : Shows im pc) :
    (pc.1.map fun r => im.getD r 0).map pc.1.idxOf = pat pc.1.length pc.2 := by
  have hp := pats_mem l1 l4 (pat_mem l1 l4 pl)
  refine List.ext_getElem (by rw [List.length_map, List.length_map, hp.1]) fun i h1 h2 => ?_
  rw [List.length_map, List.length_map] at h1
  have s := sh i h1
  rw [List.getElem_map, List.getElem_map]
  have e1 : im.getD pc.1[i] 0 = pc.1.getD ((pat pc.1.length pc.2).getD i 0) 0 := by
    rw [getD_in' h1] at s
    rw [List.getD_eq_getElem?_getD, s]
    rfl
  rw [e1, getD_in' h2]
  have lt : (pat pc.1.length pc.2)[i] < pc.1.length := hp.2 _ (List.getElem_mem h2)
  rw [getD_in' lt]
  exact hn.idxOf_getElem _ lt
theorem names_in {im : List Nat} {pc : Pc} (l1 : 1 ≤ pc.1.length) (l4 : pc.1.length ≤ 4) (pl : pc.2 < F pc.1.length) (sh : Shows im pc) : ∀ r ∈ pc.1, im.getD r 0 ∈ pc.1 := by
  intro r hr
  obtain ⟨i, hi, rfl⟩ := List.getElem_of_mem hr
  have s := sh i hi
  rw [getD_in' hi] at s
  have lt := patD_lt l1 l4 pl hi
  rw [List.getD_eq_getElem?_getD, s]
  exact getD_mem lt
end K4
end
section
namespace K4
/-! ### how large the numbers are; the block that a number lies in -/
theorem T_bound : ∀ n, n ≤ 64 → ∀ k, k ≤ n → T k ≤ 2 ^ (24 * k) := by
  intro n
  induction n with
  | zero =>
    intro _ k hk
    rw [Nat.le_zero.mp hk]
    exact Nat.le_refl _
  | succ n ih =>
    intro hn k hk
    have ih := ih (by omega)
    rcases Nat.lt_or_ge k (n + 1) with c | c
    · exact ih k (by omega)
    · have e : k = n + 1 := by omega
      subst e
      have up : ∀ j, j ≤ n → T j ≤ 2 ^ (24 * n) := fun j hj => Nat.le_trans (ih j hj) (Nat.pow_le_pow_right (by decide) (by omega))
      have c2 : 3 * n ≤ 2 ^ 21 := Nat.le_trans (show 3 * n ≤ 1000 by omega) (by decide)
      have c3 : 6 * n * (n - 1) ≤ 2 ^ 21 := Nat.le_trans (Nat.mul_le_mul (show 6 * n ≤ 384 by omega) (show n - 1 ≤ 64 by omega)) (by decide)
      have c4 : 7 * n * (n - 1) * (n - 2) ≤ 2 ^ 21 := Nat.le_trans (Nat.mul_le_mul (Nat.mul_le_mul (show 7 * n ≤ 441 by omega) (show n - 1 ≤ 62 by omega)) (show n - 2 ≤ 61 by omega)) (by decide)
      rw [T_law (by omega)]
      have t1 := up n (Nat.le_refl _)
      have b2 : (if 1 < n + 1 then 3 * (n + 1 - 1) * T (n + 1 - 2) else 0) ≤ 2 ^ 21 * 2 ^ (24 * n) := by
        split
        · exact Nat.mul_le_mul (by simpa using c2) (up _ (by omega))
        · exact Nat.zero_le _
      have b3 : (if 2 < n + 1 then 6 * (n + 1 - 1) * (n + 1 - 2) * T (n + 1 - 3) else 0) ≤ 2 ^ 21 * 2 ^ (24 * n) := by
        split
        · exact Nat.mul_le_mul (by simpa using c3) (up _ (by omega))
        · exact Nat.zero_le _
      have b4 : (if 3 < n + 1 then 7 * (n + 1 - 1) * (n + 1 - 2) * (n + 1 - 3) * T (n + 1 - 4) else 0) ≤ 2 ^ 21 * 2 ^ (24 * n) := by
        split
        · exact Nat.mul_le_mul (by simpa using c4) (up _ (by omega))
        · exact Nat.zero_le _
      have e2 : 2 ^ (24 * (n + 1)) = 16777216 * 2 ^ (24 * n) := by
        rw [Nat.mul_succ, Nat.pow_add, Nat.mul_comm]
      rw [e2]
      rw [show (2 : Nat) ^ 21 = 2097152 by rfl] at b2 b3 b4
      have t1' : T (n + 1 - 1) ≤ 2 ^ (24 * n) := t1
      generalize (2 : Nat) ^ (24 * n) = Y at *
      omega
theorem T_lt {n : Nat} (h : n ≤ 64) : T n < 2 ^ 1600 := by
  refine Nat.lt_of_le_of_lt (T_bound n h n (Nat.le_refl _)) ?_
  exact Nat.pow_lt_pow_right (by decide) (by omega)
theorem pre_succ {n m : Nat} (h1 : 1 ≤ m) (h4 : m ≤ 4) : pre n (m + 1) = pre n m + blk n m := by
  rcases (by omega : m = 1 ∨ m = 2 ∨ m = 3 ∨ m = 4) with rfl | rfl | rfl | rfl
  · rw [pre_2, pre_1]; omega
  · rw [pre_3, pre_2]
  · rw [pre_4, pre_3]
  · rw [pre_5, pre_4]
theorem pre_all {n : Nat} (hn : 0 < n) : pre n 5 = T n := by rw [pre_5, T_eq hn]
/-- a further block -/
theorem blk_more {n m b r : Nat} (hn : 0 < n) (hb : b < T n) (h1 : 1 ≤ m) (h4 : m ≤ 4) (hmn : m ≤ n) (e : b = pre n m + r) (hr : blk n m ≤ r) : m + 1 ≤ 4 ∧ m + 1 ≤ n ∧ b = pre n (m + 1) + (r - blk n m) := by
  have s := pre_succ (n := n) h1 h4
  have big : ∀ j, m ≤ j → j ≤ 4 → n ≤ m → blk n (j + 1) = 0 := fun j _ _ h => blk_big (by omega) hn
  have h5 := pre_all hn
  have hm4 : m + 1 ≤ 4 := by
    rcases Nat.lt_or_ge m 4 with c | c
    · omega
    · have : m = 4 := by omega
      subst this
      have s' : pre n 5 = pre n 4 + blk n 4 := s
      omega
  refine ⟨hm4, ?_, by omega⟩
  rcases Nat.lt_or_ge m n with c | c
  · omega
  · have top : pre n (m + 1) = T n := by
      rw [← h5]
      rcases (by omega : m = 1 ∨ m = 2 ∨ m = 3) with rfl | rfl | rfl
      · have a1 := blk_big (n := n) (k := 2) (by omega) hn
        have a2 := blk_big (n := n) (k := 3) (by omega) hn
        have a3 := blk_big (n := n) (k := 4) (by omega) hn
        rw [pre_5, pre_2]; omega
      · have a2 := blk_big (n := n) (k := 3) (by omega) hn
        have a3 := blk_big (n := n) (k := 4) (by omega) hn
        rw [pre_5, pre_3]; omega
      · have a3 := blk_big (n := n) (k := 4) (by omega) hn
        rw [pre_5, pre_4]; omega
    omega
theorem blk_stop {n m b r : Nat} (h1 : 1 ≤ m) (h4 : m ≤ 4) (e : b = pre n m + r) (hr : r < blk n m) : pick n b = (m, r) := by
  rw [e]
  exact pick_of h1 h4 hr
end K4
end
section
namespace K4P
open PySem PySem.Spec
theorem mro_pm : mroOf (.type "itertools.permutations") = pure [.type "itertools.permutations", .type "object"] := by rw [mroOf_type]; kernel_rfl
theorem lookup_pm_new : typeLookup (.type "itertools.permutations") "__new__" = pure (some (.builtin "itertools.permutations.__new__")) := by rw [typeLookup_type, builtinLookup_eq_fast]; kernel_rfl
theorem slot_pm_init : Slot "itertools.permutations" "__init__" "object.__init__" :=
  .of (owner := "object") (n := "__init__") (by rw [typeLookup_type, builtinLookup_eq_fast]; kernel_rfl) (by decide +kernel) (by decide +kernel) (by decide +kernel)
    (by first | exact .inl (by decide +kernel) | exact .inr (by decide +kernel)) (by rw [isSubtype_type]; kernel_rfl)
theorem sub_pm : isSubtype (.type "itertools.permutations") (.type "itertools.permutations") = pure true := by rw [isSubtype_type]; kernel_rfl
theorem called_pm : TypeCalled "itertools.permutations" "itertools.permutations.__new__" "object.__init__" :=
  ⟨by decide +kernel, by decide +kernel, ⟨_, _, mro_pm⟩, madeBy_type mro_pm lookup_pm_new (by decide +kernel), by decide +kernel, sub_pm, slot_pm_init⟩
theorem typeCall_pm_1 (a : Value) : checkTypeCall "itertools.permutations" ⟨[a], []⟩ = pure () := by kernel_rfl
theorem newCall_pm_1 (a : Value) : checkBuiltinCall "itertools.permutations.__new__" ⟨[.type "itertools.permutations", a], []⟩ = pure () := by kernel_rfl
theorem entry_pm_new : entryFor table "itertools.permutations.__new__" = some Builtin.«itertools.permutations.__new__» := entryFor_of_tree (by kernel_rfl)
theorem slot_pm_iter : Slot "itertools.permutations" "__iter__" "itertools.permutations.__iter__" :=
  .of (owner := "itertools.permutations") (n := "__iter__") (by rw [typeLookup_type, builtinLookup_eq_fast]; kernel_rfl) (by decide +kernel) (by decide +kernel) (by decide +kernel)
    (by first | exact .inl (by decide +kernel) | exact .inr (by decide +kernel)) sub_pm
theorem slot_pm_next : Slot "itertools.permutations" "__next__" "itertools.permutations.__next__" :=
  .of (owner := "itertools.permutations") (n := "__next__") (by rw [typeLookup_type, builtinLookup_eq_fast]; kernel_rfl) (by decide +kernel) (by decide +kernel) (by decide +kernel)
    (by first | exact .inl (by decide +kernel) | exact .inr (by decide +kernel)) sub_pm
theorem entry_pm_iter : entryFor table "itertools.permutations.__iter__" = some Builtin.«dict_keyiterator.__iter__» :=
  entryFor_alias (id' := "dict_keyiterator.__iter__") (by kernel_rfl) (by first | rfl | decide +kernel | (unfold String.splitOn; simp +decide [String.splitOnAux])) (by decide +kernel) (by kernel_rfl)
theorem entry_pm_next : entryFor table "itertools.permutations.__next__" = some Builtin.«itertools.permutations.__next__» := entryFor_of_tree (by kernel_rfl)
theorem owner_pm : Manifest.owners.lookup (String.ofList ['s', 'n', 'o', 'i', 't', 'a', 't', 'u', 'm', 'r', 'e', 'p', '.', 's', 'l', 'o', 'o', 't', 'r', 'e', 't', 'i'].reverse) = some Manifest.sig_itertools_permutations := by kernel_rfl
theorem args_pm_iter (a : Value) : argsOk "itertools.permutations.__iter__" ⟨[a], []⟩ := by
  unfold argsOk; rw [signature?_of (id := "itertools.permutations.__iter__") (n := ['_', '_', 'r', 'e', 't', 'i', '_', '_']) (o := ['s', 'n', 'o', 'i', 't', 'a', 't', 'u', 'm', 'r', 'e', 'p', '.', 's', 'l', 'o', 'o', 't', 'r', 'e', 't', 'i']) (by kernel_rfl) owner_pm]; kernel_rfl
theorem args_pm_next (a : Value) : argsOk "itertools.permutations.__next__" ⟨[a], []⟩ := by
  unfold argsOk; rw [signature?_of (id := "itertools.permutations.__next__") (n := ['_', '_', 't', 'x', 'e', 'n', '_', '_']) (o := ['s', 'n', 'o', 'i', 't', 'a', 't', 'u', 'm', 'r', 'e', 'p', '.', 's', 'l', 'o', 'o', 't', 'r', 'e', 't', 'i']) (by kernel_rfl) owner_pm]; kernel_rfl
theorem noDict_pm : typeHasDict (.type "itertools.permutations") = false := by decide +kernel
/-! ### the orders, by turns: the places' numbers count down, the last place that can go on changes with another -/
def swapL (l : List Nat) (i j : Nat) : List Nat := (l.set i (l.getD j 0)).set j (l.getD i 0)
def rotL (l : List Nat) (p : Nat) : List Nat := l.eraseIdx p ++ [l.getD p 0]
def goOn (n : Nat) : Nat → List Nat → List Nat → Option (List Nat × List Nat)
  | 0, _, _ => none
  | p + 1, ix, cy => match cy.getD p 0 with
    | c + 2 => some (swapL ix p (n - (c + 1)), cy.set p (c + 1))
    | _ => goOn n p (rotL ix p) (cy.set p (n - p))
/-- the numbers ahead of the turn i + 1 -/
def pst (n : Nat) : Nat → List Nat
  | 0 => List.range n ++ (List.range n).map fun i => n - i
  | i + 1 => match goOn n n ((pst n i).take n) ((pst n i).drop n) with
    | some (a, b) => a ++ b
    | none => []
def fct : Nat → Nat
  | 0 => 1
  | n + 1 => (n + 1) * fct n
/-- the states that come -/
def sts : List (Nat × List Nat) := [1, 2, 3, 4].flatMap fun n => (List.range (fct n)).map fun i => (n, pst n i)
/-- a function that steps as ours does, on the states that come -/
def Steps (F : Nat → Nat → List Nat → List Nat → Option (List Nat × List Nat)) : Prop := ∀ p ∈ sts, F p.1 p.1 (p.2.take p.1) (p.2.drop p.1) = goOn p.1 p.1 (p.2.take p.1) (p.2.drop p.1)
instance (F : Nat → Nat → List Nat → List Nat → Option (List Nat × List Nat)) : Decidable (Steps F) := by unfold Steps; exact inferInstance
end K4P
end
section
namespace K4P
open PySem PySem.Spec PyProof.Rows L2
def flds (pool : Addr) (st n : Nat) (last : Value) (ns : List Nat) : Array Value := ([.ref pool, rawInt (st : Int), rawInt (n : Int), last] ++ ns.map fun (m : Nat) => rawInt (m : Int)).toArray
def pObj (pool : Addr) (st n : Nat) (last : Value) (ns : List Nat) : Obj := { cls := .type "itertools.permutations", data := .fields (flds pool st n last ns) }
theorem plain_pm_new : plainId "itertools.permutations.__new__" = true := by decide +kernel
theorem sub_pm2 : isSubtype (Value.type "itertools.permutations") (Value.type ("itertools." ++ "permutations")) = pure true := by
  rw [show ("itertools." ++ "permutations" : String) = "itertools.permutations" from by decide +kernel]
  exact sub_pm
theorem bind_named (v : Value) : Builtin.Itertools.itBindNamed "permutations" ["iterable", "r"] 1 2 [v] [] = pure [some v, none] := by kernel_rfl
theorem cls_rest (v : Value) : Builtin.Itertools.itClassAndRest "permutations" ⟨[.type "itertools.permutations", v], []⟩ = pure (.type "itertools.permutations", [v]) := by
  unfold Builtin.Itertools.itClassAndRest
  show (isType (.type "itertools.permutations") >>= _) = _
  show (isSubtype (Value.type "itertools.permutations") (Value.type ("itertools." ++ "permutations")) >>= _) = _
  rw [sub_pm2]
  rfl
section
variable {prog : Program} {w : World} {A : Around} {E : Value → Shared → Prop} {s : Shared} {r : Addr} {a b c : Int} {t u v : Tok} {n : Nat}
theorem code_pm_new {Q₁ : Value → Shared → Prop} (hh : A.handled = none) (hr : IsRange s.heap r a b c t u v) (hsmall : Builtin.Range.small a b c = true) (hn : Builtin.Range.rangeSize a b c = n) (hlen : n ≤ 4)
    (h : ∀ (h' : Heap) (tk : Nat) (acc : Array Value), (∀ b o, s.heap.get? b = some o → h'.get? b = some o) → ItemsOf (fun i v => ∃ t, v = .int (a + i * c) t) acc n →
      Q₁ (.ref (h'.objs.size + 1)) { s with heap := (h'.push { cls := .type "tuple", data := .seq acc }).push (pObj h'.objs.size 0 n .none (List.range n ++ (List.range n).map fun i => n - i)), toks := tk }) :
    codeAny (model prog w) A (.call (.builtin "itertools.permutations.__new__") ⟨[.type "itertools.permutations", .ref r], []⟩) (wants Q₁ E) s := by
  refine codeAny_of_tree ?_
  show wpAny _ A.in1 (do checkBuiltinCall "itertools.permutations.__new__" ⟨[.type "itertools.permutations", .ref r], []⟩; again (.builtin "itertools.permutations.__new__" ⟨[.type "itertools.permutations", .ref r], []⟩)) _ _ s
  refine wpAny_bind (wpAny_of_eq (newCall_pm_1 _) (wpAny_pure ⟨plainId_quiet plain_pm_new _, codeAny_builtin entry_pm_new ?_⟩))
  rw [Around.under_plainId plain_pm_new _]
  have hsub := sub_pm
  have hd := noDict_pm
  have hh1 : A.in1.handled = none := hh
  unfold Builtin.«itertools.permutations.__new__»
  refine wpAny_bind (wpAny_of_eq (cls_rest _) ?_)
  refine wpAny_bind (wpAny_of_eq (bind_named _) ?_)
  refine wpAny_bind (collect_range (A := A.in1) hh1 hr hsmall hn (by omega) ?_)
  intro h' tk acc hk hacc
  have el : acc.toList.length = n := by rw [Array.length_toList]; exact hacc.1
  have ea : acc.toList.toArray = acc := by simp
  rw [el]
  show wpAny _ _ (pure ((n : Nat) : Int) >>= _) _ _ _
  refine wpAny_bind (wpAny_pure ?_)
  show wpAny _ _ (if ((n : Nat) : Int) < 0 then _ else _) _ _ _
  rw [if_neg (by omega)]
  have tm : Builtin.Itertools.itTooMany ((n : Nat) : Int) = false := by
    unfold Builtin.Itertools.itTooMany
    exact decide_eq_false (by omega)
  rw [tm, if_neg Bool.false_ne_true]
  refine wpAny_bind (wpAny_newTuple ?_ (by rw [el, sizeLine_eq]; omega))
  rw [ea]
  refine wpAny_bind ?_
  unfold Builtin.Itertools.itNewRecord
  rw [hd]
  show wpAny _ _ (if (!false) = true then _ else _) _ _ _
  rw [if_pos (show (!false) = true from rfl)]
  have hz : (h'.push { cls := .type "tuple", data := .seq acc }).objs.size = h'.objs.size + 1 := Heap.size_push ..
  have ef : ([Value.ref h'.objs.size, rawInt (if ((n : Nat) : Int).toNat > n then 2 else 0), rawInt ((((n : Nat) : Int).toNat : Nat) : Int), Value.none] ++ List.map (fun (i : Nat) => rawInt (i : Int)) (List.range n) ++ List.map (fun (i : Nat) => rawInt ((n : Int) - (i : Int))) (List.range ((n : Nat) : Int).toNat)).toArray = flds h'.objs.size 0 n .none (List.range n ++ (List.range n).map fun i => n - i) := by
    unfold flds
    rw [Int.toNat_natCast, if_neg (Nat.lt_irrefl n), List.map_append, List.map_map, List.append_assoc]
    congr 3
    refine List.map_congr_left fun i hi => ?_
    show rawInt ((n : Int) - (i : Int)) = rawInt ((n - i : Nat) : Int)
    have := List.mem_range.mp hi
    rw [show ((n : Int) - (i : Int)) = ((n - i : Nat) : Int) by omega]
  refine wpAny_newObj_type ?_ ?_
  · refine wpAny_pure ?_
    show Q₁ (Value.ref (h'.push { cls := .type "tuple", data := .seq acc }).objs.size) _
    rw [hz]
    have q := h h' tk acc hk hacc
    unfold pObj at q
    rw [← ef] at q
    exact q
  · show (Array.size _) ≤ sizeLine + 2
    rw [ef]
    unfold flds
    rw [sizeLine_eq]
    simp
    omega
end
end K4P
end
section
namespace K4P
open PySem PySem.Spec PyProof.Rows L2
theorem flds_get (pool : Addr) (st n : Nat) (last : Value) (ns : List Nat) :
    (flds pool st n last ns)[0]? = some (.ref pool) ∧ (flds pool st n last ns)[1]? = some (rawInt (st : Int)) ∧ (flds pool st n last ns)[2]? = some (rawInt (n : Int)) ∧ (flds pool st n last ns)[3]? = some last := by
  unfold flds
  refine ⟨?_, ?_, ?_, ?_⟩ <;> simp
theorem flds_size (pool : Addr) (st n : Nat) (last : Value) (ns : List Nat) : (flds pool st n last ns).size = ns.length + 4 := by
  unfold flds
  simp
theorem flds_nums (pool : Addr) (st n : Nat) (last : Value) (ns : List Nat) : ((flds pool st n last ns).toList.drop 4).map (fun | .int n _ => n.toNat | _ => 0) = ns := by
  unfold flds
  show (ns.map fun (m : Nat) => rawInt (m : Int)).map _ = ns
  rw [List.map_map]
  refine (List.map_congr_left fun m _ => ?_).trans (List.map_id ns)
  show ((m : Nat) : Int).toNat = m
  exact Int.toNat_natCast m
theorem flds_st (pool : Addr) (st st' n : Nat) (last : Value) (ns : List Nat) : (flds pool st n last ns).setIfInBounds 1 (rawInt (st' : Int)) = flds pool st' n last ns := by
  unfold flds
  simp
theorem flds_last (pool : Addr) (st n : Nat) (last last' : Value) (ns : List Nat) : (flds pool st n last ns).setIfInBounds 3 last' = flds pool st n last' ns := by
  unfold flds
  simp
theorem flds_ns (pool : Addr) (st n : Nat) (last : Value) (ns ns' : List Nat) : (flds pool st n last ns).extract 0 4 ++ (ns'.map fun (m : Nat) => rawInt (m : Int)).toArray = flds pool st n last ns' := by
  unfold flds
  simp
theorem nil_notTup {h : Heap} {it pool : Addr} {st n : Nat} {last : Value} {ns : List Nat} {items : Array Value} (hit : h.get? it = some (pObj pool st n last ns)) (hp : IsTup h pool items) : pool ≠ it := by
  rintro rfl
  obtain ⟨o, e, c, _⟩ := hp
  rw [hit] at e
  cases e
  have c' : Value.type "itertools.permutations" = Value.type "tuple" := c
  injection c' with c''
  exact absurd c'' (by decide)
section
variable {prog : Program} {w : World} {A : Around} {E : Value → Shared → Prop} {s : Shared} {it pool : Addr} {st n : Nat} {last : Value} {ns : List Nat} {items : Array Value}
/-- the new tuple -/
abbrev outT (items : Array Value) (n : Nat) (ix : List Nat) : Obj := { cls := .type "tuple", data := .seq (((ix.take n).map fun i => items.getD i Value.none)).toArray }
/-- what an item leaves -/
abbrev Item (s : Shared) (it pool : Addr) (n : Nat) (items : Array Value) (ns ix : List Nat) (Q : Option Value → Shared → Prop) : Prop :=
  ∀ h', h'.get? it = some (pObj pool 1 n (.ref s.heap.objs.size) ns) → h'.get? s.heap.objs.size = some (outT items n ix) → (∀ b o, b ≠ it → s.heap.get? b = some o → h'.get? b = some o) → Q (some (.ref s.heap.objs.size)) { s with heap := h' }
/-- the ways of a turn: the first item, a further one, the end -/
inductive Way (A : Around) (s : Shared) (it pool : Addr) (st n : Nat) (items : Array Value) (ns : List Nat) (Q : Option Value → Shared → Prop) : Prop where
  | first (e : st = 0) (h : Item s it pool n items ns ns Q)
  | more (e : st = 1) (h : ∀ F, Steps F → (∀ ix cy, F n n (ns.take n) (ns.drop n) = some (ix, cy) → (ix ++ cy).length ≤ 8 ∧ Item s it pool n items (ix ++ cy) ix Q) ∧
      (F n n (ns.take n) (ns.drop n) = none → A.handled = none ∧ ∀ h', (∀ b o, b ≠ it → s.heap.get? b = some o → h'.get? b = some o) → Q none { s with heap := h' }))
/-- a record's field set behind an update: what stands at it -/
theorem upd_obj {h : Heap} {o : Obj} {f : Array Value → Array Value} {vs vs' : Array Value} (ho : h.get? it = some o) (hd : o.data = .fields vs) (hc : o.cls = .type "itertools.permutations") (hx : o.dict = none) (hs : o.slots = #[]) (hf : f vs = vs') :
    (h.update it (Obj.mapFields f)).get? it = some { cls := .type "itertools.permutations", data := .fields vs' } := by
  obtain ⟨c, d, dt, sl⟩ := o
  simp only at hd hc hx hs
  subst hd hc hx hs hf
  exact Heap.get?_update_self (Obj.mapFields f) ho rfl
theorem pm_next {Q : Option Value → Shared → Prop} (hn : n ≤ 4) (hit : s.heap.get? it = some (pObj pool st n last ns)) (hp : IsTup s.heap pool items) (hz : items.size = n) (W : Way A s it pool st n items ns Q) :
    wpAny (model prog w) A (pyNext (.ref it)) Q E s := by
  have hT : s.TypeIs (.ref it) "itertools.permutations" := ⟨_, hit, rfl⟩
  have hlt : it < s.heap.objs.size := Heap.lt_size hit
  obtain ⟨g0, g1, g2, g3⟩ := flds_get pool st n last ns
  obtain ⟨o, ho, hc, k, hd⟩ := hp
  unfold pyNext
  refine wpAny_bind (wpAny_attempt (wpAny_callSpecial?_slot (name := Str.ofString "__next__") hT slot_pm_next (wpAny_call_entry slot_pm_next hT entry_pm_next ?_ (args_pm_next _))))
  unfold Builtin.«itertools.permutations.__next__»
  -- the reads
  show wpAny _ _ (field (.ref it) 0 >>= _) _ _ s
  refine wpAny_bind (wpAny_field hit rfl g0 ?_)
  show wpAny _ _ (Builtin.Itertools.itPoolItems (.ref pool) >>= _) _ _ s
  refine wpAny_bind ?_
  unfold Builtin.Itertools.itPoolItems
  refine wpAny_bind (wpAny_seqItems ho hd (wpAny_pure ?_))
  refine wpAny_bind ?_
  unfold Builtin.Itertools.itIntField
  refine wpAny_bind (wpAny_field hit rfl g2 (wpAny_pure ?_))
  refine wpAny_bind ?_
  unfold Builtin.Itertools.itNumbersFrom
  refine wpAny_bind (wpAny_load hit ?_)
  refine wpAny_of_eq (a := ns) (congrArg pure (flds_nums pool st n last ns)) ?_
  refine wpAny_bind (wpAny_bind (wpAny_field hit rfl g1 (wpAny_pure ?_)))
  cases W with
  | first e h =>
    subst e
    show wpAny _ _ (setField (.ref it) 1 (rawInt 1) >>= _) _ _ s
    refine wpAny_bind (wpAny_setField hit rfl (by rw [flds_size]; omega) ?_)
    have hit1 := upd_obj (f := fun x => x.setIfInBounds 1 (rawInt 1)) hit rfl rfl rfl rfl (flds_st pool 0 1 n last ns)
    have hsz : (s.heap.update it (Obj.mapFields fun x => x.setIfInBounds 1 (rawInt 1))).objs.size = s.heap.objs.size := Heap.size_update ..
    show wpAny _ _ (newTuple ((ns.take ((n : Nat) : Int).toNat).map fun i => items.getD i .none) >>= _) _ _ _
    rw [Int.toNat_natCast]
    refine wpAny_bind (wpAny_newTuple ?_ (by rw [List.length_map, List.length_take, sizeLine_eq]; omega))
    have hit2 : ((s.heap.update it (Obj.mapFields fun x => x.setIfInBounds 1 (rawInt 1))).push (outT items n ns)).get? it = _ := Heap.get?_push_of_some _ hit1
    refine wpAny_bind (wpAny_field hit2 rfl (flds_get pool 1 n last ns).2.2.2 ?_)
    refine wpAny_bind (wpAny_setField hit2 rfl (by rw [flds_size]; omega) ?_)
    refine wpAny_bind (wpAny_letGo (wpAny_pure ⟨_, rfl, wpAny_pure ?_⟩))
    have a1 := upd_obj (f := fun x => x.setIfInBounds 3 (Value.ref (s.heap.update it (Obj.mapFields fun x => x.setIfInBounds 1 (rawInt 1))).objs.size)) hit2 rfl rfl rfl rfl (flds_last pool 1 n last _ ns)
    rw [hsz] at a1
    show Q (some (.ref (s.heap.update it (Obj.mapFields fun x => x.setIfInBounds 1 (rawInt 1))).objs.size)) _
    rw [hsz]
    refine h _ a1 ?_ fun b o hb e => ?_
    · rw [Heap.get?_update_ne _ _ _ _ (Nat.ne_of_gt hlt), ← hsz]
      exact Heap.get?_push_size _ rfl
    · rw [Heap.get?_update_ne _ _ _ _ hb]
      refine Heap.get?_push_of_some _ ?_
      rw [Heap.get?_update_ne _ _ _ _ hb]
      exact e
  | more e h =>
    subst e
    rw [hz, Int.toNat_natCast]
    show wpAny _ _ (match (_ : Option (List Nat × List Nat)) with | some (indices, cycles) => _ | none => _) _ _ s
    split
    rename_i ix cy hnp
    obtain ⟨hl, h⟩ := (h _ (by decide +kernel)).1 ix cy hnp
    show wpAny _ _ (Builtin.Itertools.itSetNumbersFrom (.ref it) 4 (ix ++ cy) >>= _) _ _ s
    refine wpAny_bind ?_
    unfold Builtin.Itertools.itSetNumbersFrom
    generalize hF : (fun (fs : Array Value) => fs.extract 0 4 ++ ((ix ++ cy).map fun (m : Nat) => rawInt (m : Int)).toArray) = F
    have hFv : F (flds pool 1 n last ns) = flds pool 1 n last (ix ++ cy) := by rw [← hF]; exact flds_ns pool 1 n last ns (ix ++ cy)
    show wpAny _ _ (updateFields it F) _ _ s
    refine wpAny_updateFields hit rfl ?_ (by rw [hFv, flds_size, sizeLine_eq]; omega)
    have hit1 := upd_obj (f := F) hit rfl rfl rfl rfl hFv
    have hsz : (s.heap.update it (Obj.mapFields F)).objs.size = s.heap.objs.size := Heap.size_update ..
    show wpAny _ _ (newTuple ((ix.take n).map fun i => items.getD i .none) >>= _) _ _ _
    refine wpAny_bind (wpAny_newTuple ?_ (by rw [List.length_map, List.length_take, sizeLine_eq]; omega))
    have hit2 : ((s.heap.update it (Obj.mapFields F)).push (outT items n ix)).get? it = _ := Heap.get?_push_of_some _ hit1
    refine wpAny_bind (wpAny_field hit2 rfl (flds_get pool 1 n last (ix ++ cy)).2.2.2 ?_)
    refine wpAny_bind (wpAny_setField hit2 rfl (by rw [flds_size]; omega) ?_)
    refine wpAny_bind (wpAny_letGo (wpAny_pure ⟨_, rfl, wpAny_pure ?_⟩))
    have a1 := upd_obj (f := fun x => x.setIfInBounds 3 (Value.ref (s.heap.update it (Obj.mapFields F)).objs.size)) hit2 rfl rfl rfl rfl (flds_last pool 1 n last _ (ix ++ cy))
    rw [hsz] at a1
    show Q (some (.ref (s.heap.update it (Obj.mapFields F)).objs.size)) _
    rw [hsz]
    refine h _ a1 ?_ fun b o hb e => ?_
    · rw [Heap.get?_update_ne _ _ _ _ (Nat.ne_of_gt hlt), ← hsz]
      exact Heap.get?_push_size _ rfl
    · rw [Heap.get?_update_ne _ _ _ _ hb]
      refine Heap.get?_push_of_some _ ?_
      rw [Heap.get?_update_ne _ _ _ _ hb]
      exact e
    rename_i hnp
    obtain ⟨hh, h⟩ := (h _ (by decide +kernel)).2 hnp
    show wpAny _ _ (setField (.ref it) 1 (rawInt 2) >>= _) _ _ s
    refine wpAny_bind (wpAny_setField hit rfl (by rw [flds_size]; omega) ?_)
    show wpAny _ _ (newExc (.type "StopIteration") [] >>= _) _ _ _
    refine wpAny_bind ?_
    simp only [newExc, newTuple]
    refine wpAny_bind (wpAny_newObj_type ?_ (by size_fits))
    refine wpAny_bind (m := firstArgMember _ _) (wpAny_of_eq (a := Value.none) (by first | rfl | (simp only [firstArgMember]; rfl)) ?_)
    refine wpAny_newObj_type ?_ (by size_fits)
    simp only [raiseNew]
    refine wpAny_bind (wpAny_handled ?_)
    first | rw [show A.in1.handled = none from hh] | rw [hh]
    refine wpAny_bind (wpAny_pure (wpAny_throw ?_))
    refine wpAny_bind (wpAny_isInstance (T := "StopIteration") (b := true) ⟨_, Heap.get?_push_size _ rfl, rfl⟩ isSubtype_stop ?_)
    refine wpAny_pure (h _ fun b o hb e => ?_)
    refine Heap.get?_push_of_some _ (Heap.get?_push_of_some _ ?_)
    rw [Heap.get?_update_ne _ _ _ _ hb]
    exact e
/-- permutations(range(..)) -/
theorem call_pm {r : Addr} {a b c : Int} {t u v : Tok} {Q : Value → Shared → Prop} (hh : A.handled = none) (hr : IsRange s.heap r a b c t u v) (hsmall : Builtin.Range.small a b c = true) (hn : Builtin.Range.rangeSize a b c = n) (hlen : n ≤ 4)
    (h : ∀ (h' : Heap) (tk : Nat) (acc : Array Value), (∀ b o, s.heap.get? b = some o → h'.get? b = some o) → ItemsOf (fun i v => ∃ t, v = .int (a + i * c) t) acc n →
      Q (.ref (h'.objs.size + 1)) { s with heap := (h'.push { cls := .type "tuple", data := .seq acc }).push (pObj h'.objs.size 0 n .none (List.range n ++ (List.range n).map fun i => n - i)), toks := tk }) :
    wpAny (model prog w) A (call (.type "itertools.permutations") [.ref r]) Q E s := by
  refine callType_codes (Q₁ := fun obj s₁ => s₁.TypeIs obj "itertools.permutations" ∧ Q obj s₁) called_pm (typeCall_pm_1 _) F.entry_object_init
    (code_pm_new (A := A.in1) hh hr hsmall hn hlen fun h' tk acc hk hacc => ⟨⟨pObj h'.objs.size 0 n .none (List.range n ++ (List.range n).map fun i => n - i), ?_, rfl⟩, h h' tk acc hk hacc⟩) fun obj s₁ h₁ => ?_
  · have hz : (h'.push { cls := .type "tuple", data := .seq acc }).objs.size = h'.objs.size + 1 := Heap.size_push ..
    have := Heap.get?_push_size (h'.push { cls := .type "tuple", data := .seq acc }) (o := pObj h'.objs.size 0 n .none (List.range n ++ (List.range n).map fun i => n - i)) rfl
    rw [hz] at this
    exact this
  · exact ⟨h₁.1, F.args_object_init_2 obj _, object_init_meets called_pm.init.lookup called_pm.made (by decide +kernel) prog w A.in1 _ s₁ ⟨h₁.1, rfl, h₁.2⟩⟩
theorem iter_pm {Q : Value → Shared → Prop} (hit : s.heap.get? it = some (pObj pool st n last ns)) (h : Q (.ref it) s) : wpAny (model prog w) A (pyIter (.ref it)) Q E s := by
  have hT : s.TypeIs (.ref it) "itertools.permutations" := ⟨_, hit, rfl⟩
  refine wpAny_pyIter_slot hT slot_pm_iter (wpAny_call_entry slot_pm_iter hT entry_pm_iter ?_ (args_pm_iter _))
  show wpAny _ _ (ret (.ref it)) _ _ s
  exact wpAny_pure ⟨_, rfl, "itertools.permutations", _, hT, slot_pm_next.lookup, h⟩
end
end K4P
end
section
namespace K4P
open PySem PySem.Spec PyProof.Rows L2
/-- the i-th order -/
def prm (n i : Nat) : List Nat := (pst n i).take n
/-- all that the states' numbers say -/
def pmOk (n : Nat) : Bool := (List.range (fct n)).all fun i => decide ((pst n i).length = 2 * n) && (prm n i).all (fun x => decide (x < n)) &&
  (if i + 1 = fct n then decide (goOn n n ((pst n i).take n) ((pst n i).drop n) = none) else
    decide (goOn n n ((pst n i).take n) ((pst n i).drop n) = some ((pst n (i + 1)).take n, (pst n (i + 1)).drop n)))
theorem pmOk_all : pmOk 1 = true ∧ pmOk 2 = true ∧ pmOk 3 = true ∧ pmOk 4 = true := by decide +kernel
structure PmAt (n i : Nat) : Prop where
  len : (pst n i).length = 2 * n
  lt : ∀ x ∈ prm n i, x < n
  stop : i + 1 = fct n → goOn n n ((pst n i).take n) ((pst n i).drop n) = none
  more : i + 1 < fct n → goOn n n ((pst n i).take n) ((pst n i).drop n) = some ((pst n (i + 1)).take n, (pst n (i + 1)).drop n)
theorem pm_at {n i : Nat} (h1 : 1 ≤ n) (h4 : n ≤ 4) (hi : i < fct n) : PmAt n i := by
  have k : pmOk n = true := by
    obtain ⟨a, b, c, d⟩ := pmOk_all
    rcases (by omega : n = 1 ∨ n = 2 ∨ n = 3 ∨ n = 4) with rfl | rfl | rfl | rfl
    · exact a
    · exact b
    · exact c
    · exact d
  have q := List.all_eq_true.mp k i (List.mem_range.mpr hi)
  rw [Bool.and_eq_true, Bool.and_eq_true] at q
  obtain ⟨⟨q1, q2⟩, q3⟩ := q
  refine ⟨of_decide_eq_true q1, fun x hx => of_decide_eq_true (List.all_eq_true.mp q2 x hx), fun e => ?_, fun e => ?_⟩
  · rw [if_pos e] at q3
    exact of_decide_eq_true q3
  · rw [if_neg (by omega)] at q3
    exact of_decide_eq_true q3
theorem fct_pos : ∀ n, 0 < fct n
  | 0 => by decide
  | n + 1 => Nat.mul_pos (Nat.succ_pos n) (fct_pos n)
theorem sts_mem {n i : Nat} (h1 : 1 ≤ n) (h4 : n ≤ 4) (hi : i < fct n) : (n, pst n i) ∈ sts := by
  unfold sts
  refine List.mem_flatMap.mpr ⟨n, ?_, List.mem_map.mpr ⟨i, List.mem_range.mpr hi, rfl⟩⟩
  rcases (by omega : n = 1 ∨ n = 2 ∨ n = 3 ∨ n = 4) with rfl | rfl | rfl | rfl <;> decide
/-- the walk: a new tuple each turn -/
def Itp (n : Nat) : It := ⟨fun i _ => i < fct n, fun i H x H' => ∃ T, x = .ref T ∧ H T = none ∧ H' = upd H T (.tup ((prm n i).map fun (m : Nat) => V.int (m : Int))), fun i _ => fct n ≤ i⟩
/-- the state ahead of turn i -/
structure PSt (it pool : Addr) (n : Nat) (items : Array Value) (i : Nat) (h : Heap) : Prop where
  ob : ∃ last, h.get? it = some (pObj pool (if i = 0 then 0 else 1) n last (pst n (i - 1)))
  tp : IsTup h pool items
  le : i ≤ fct n
theorem vals_out {items : Array Value} {n : Nat} (hv : Vals ((List.range n).map fun (m : Nat) => V.int (m : Int)) items.toList) : ∀ {ix : List Nat}, (∀ x ∈ ix, x < n) → Vals (ix.map fun (m : Nat) => V.int (m : Int)) (ix.map fun i => items.getD i Value.none)
  | [], _ => .nil
  | x :: ix, h => by
    refine .cons ?_ (vals_out hv fun y hy => h y (List.mem_cons_of_mem _ hy))
    have hx := h x List.mem_cons_self
    obtain ⟨u, hu, ru⟩ := hv.get (i := x) (x := V.int (x : Int)) (by simp [hx])
    have e : items.getD x Value.none = u := by
      rw [Array.getD_eq_getD_getElem?, ← Array.getElem?_toList, hu]
      rfl
    show RelV (V.int (x : Int)) (items.getD x Value.none)
    rw [e]
    exact ru
theorem turn_pm {P : Program} {w : World} {K : PySem.W.Frag} {tg : Expr} (it pool : Addr) (n : Nat) (items : Array Value) (h1 : 1 ≤ n) (h4 : n ≤ 4) (hv : Vals ((List.range n).map fun (m : Nat) => V.int (m : Int)) items.toList) :
    Turn P w K tg (Itp n) [it, pool] it (PSt it pool n items) where
  mem := by simp
  obj := fun i h st b hb => by
    obtain ⟨⟨last, ho⟩, ⟨o, hp, hc, k, hd⟩, _⟩ := st
    rcases List.mem_cons.mp hb with z | z
    · rw [z]; exact ⟨_, ho, fun v q => nomatch q⟩
    · rw [List.mem_singleton.mp z]; exact ⟨o, hp, fun v q => by rw [hd] at q; cases q⟩
  keep := fun i h h' st k => by
    obtain ⟨⟨last, ho⟩, ⟨o, hp, hc, hd⟩, hl⟩ := st
    exact ⟨⟨last, k it (by simp) _ ho⟩, ⟨o, k pool (by simp) _ hp, hc, hd⟩, hl⟩
  item := by
    intro X hP hw hK hc i pins s σ H E I hf st hg
    subst hP hw hK
    obtain ⟨⟨last, ho⟩, hp, hl⟩ := st
    have hg : i < fct n := hg
    have hz : items.size = n := by
      have := hv.length
      simp at this
      omega
    have hlt : it < s.heap.objs.size := Heap.lt_size ho
    have hplt : pool < s.heap.objs.size := by obtain ⟨o, e, _⟩ := hp; exact Heap.lt_size e
    have A1 := pm_at h1 h4 hg
    have hne : pool ≠ it := nil_notTup ho hp
    -- the end of the turn, from what the item leaves
    have fin : Item s it pool n items (pst n i) (prm n i) (fun r s1 => ∃ u, r = some u ∧ wpAny (model X.prog X.w) X.A (letOwnedTupleGo tg (.ref it) u) (fun _ s2 => ∃ x H', Inv X pins σ H' s2 ∧ RelV x u ∧ (Itp n).yld i H x H' ∧ PSt it pool n items (i + 1) s2.heap ∧ ∀ b ∈ [it, pool], H' b = none) E s1) := by
      intro h' a1 a2 a3
      refine ⟨_, rfl, go_of (s := { s with heap := h' }) (n := "itertools.permutations") a1 rfl rfl (by decide) ?_⟩
      have hvals := vals_out hv A1.lt
      have e2 : (prm n i).take n = prm n i := by
        unfold prm
        rw [List.take_take, Nat.min_self]
      have new : ObjOk X.prog X.w (upd H s.heap.objs.size (.tup ((prm n i).map fun (m : Nat) => V.int (m : Int)))) h' s.heap.objs.size (.tup ((prm n i).map fun (m : Nat) => V.int (m : Int))) := by
        refine ⟨?_, _, hvals, ⟨_, a2, rfl, 0, ?_⟩⟩
        · rw [List.length_map, prm, List.length_take, sizeLine_eq]
          omega
        · show Data.seq (((prm n i).take n).map fun i => items.getD i Value.none).toArray = _
          rw [e2]
      have I1 : Inv X pins σ _ { s with heap := h', toks := s.toks } := I.turnedNew (ch := [it, pool]) (fun b o hb e => a3 b o (fun z => hb (by simp [z])) e) hf (Nat.le_refl _) new
      refine ⟨.ref s.heap.objs.size, _, I1, rfl, ⟨_, rfl, I.hok.fresh (Nat.le_refl _), rfl⟩, ⟨⟨Value.ref s.heap.objs.size, ?_⟩, ?_, hg⟩, fun b hb => ?_⟩
      · rw [if_neg (Nat.succ_ne_zero i), Nat.add_sub_cancel]
        exact a1
      · obtain ⟨o, e, r⟩ := hp
        exact ⟨o, a3 pool o hne e, r⟩
      · have hb' : b < s.heap.objs.size := by
          rcases List.mem_cons.mp hb with z | z
          · rw [z]; exact hlt
          · rw [List.mem_singleton.mp z]; exact hplt
        rw [upd_ne (Nat.ne_of_lt hb')]
        exact (hf b hb).1
    by_cases hi : i = 0
    · subst hi
      refine pm_next h4 ho hp hz (.first rfl ?_)
      intro h' a1 a2 a3
      refine fin h' a1 ?_ a3
      rw [a2]
      show some (outT items n (pst n 0)) = some (outT items n (prm n 0))
      unfold outT prm
      rw [List.take_take, Nat.min_self]
    · rw [if_neg hi] at ho
      have hi1 : i - 1 + 1 = i := by omega
      have A0 := pm_at h1 h4 (show i - 1 < fct n by omega)
      refine pm_next h4 ho hp hz (.more rfl fun F hF => ?_)
      have st := hF _ (sts_mem h1 h4 (show i - 1 < fct n by omega))
      have mo := A0.more (by omega)
      rw [hi1] at mo
      dsimp only at st
      rw [st, mo]
      refine ⟨fun ix cy e => ?_, fun e => (nomatch e)⟩
      obtain ⟨rfl, rfl⟩ := Prod.mk.inj (Option.some.inj e)
      rw [List.take_append_drop]
      exact ⟨by rw [A1.len]; omega, fin⟩
  done := by
    intro X hP hw hK hc i pins s σ H E I hf st hg
    subst hP hw hK
    obtain ⟨⟨last, ho⟩, hp, hl⟩ := st
    have hg : fct n ≤ i := hg
    have hi : i = fct n := by omega
    have hp0 := fct_pos n
    have hz : items.size = n := by
      have := hv.length
      simp at this
      omega
    rw [if_neg (by omega)] at ho
    have A0 := pm_at h1 h4 (show i - 1 < fct n by omega)
    refine pm_next h4 ho hp hz (.more rfl fun F hF => ?_)
    have st := hF _ (sts_mem h1 h4 (show i - 1 < fct n by omega))
    dsimp only at st
    rw [st, A0.stop (by omega)]
    refine ⟨fun ix cy e => (nomatch e), fun _ => ⟨I.ok.hd hc, fun h' k => ⟨rfl, ?_⟩⟩⟩
    exact I.turnedL (t' := s.toks) (ch := [it, pool]) (fun b o hb e => k b o (fun z => hb (by simp [z])) e) hf
  self := fun A i s Q E st h => let ⟨⟨_, ho⟩, _, _⟩ := st; iter_pm ho h
/-- permutations(range(e)) -/
def iPm (te : TE) : TI := fun σ H R => te σ H fun x H1 => ∃ n : Nat, x = .int (n : Int) ∧ 1 ≤ n ∧ n ≤ 4 ∧ R (Itp n) H1
theorem pi_pm {X : Cx} {tg e : Expr} {te : TE} {p p2 pos pos2 : Pos} (hc : X.calm = true) (hg : Gl X "permutations") (hm : X.mg "permutations" = some (.type "itertools.permutations")) (hg2 : Gl X "range") (hm2 : X.mg "range" = none) (he : PE X e te)
    (na : starEach [e] X.env = (false, eval e X.env) :: starEach [] X.env := by rfl)
    (na2 : starEach [Expr.Call (.Name "range" p2) [e] [] pos2] X.env = (false, eval (Expr.Call (.Name "range" p2) [e] [] pos2) X.env) :: starEach [] X.env := by rfl) :
    PI X tg (.Call (.Name "permutations" p) [.Call (.Name "range" p2) [e] [] pos2] [] pos) (iPm te) := by
  refine ⟨fun pins s σ H R I h => ?_⟩
  have rg := prg_1 (p := p2) (pos := pos2) hg2 hm2 he na pins s σ H (fun lo hi H1 => ∃ n : Nat, lo = 0 ∧ hi = (n : Int) ∧ 1 ≤ n ∧ n ≤ 4 ∧ R (Itp n) H1) I (by
    show te σ H fun x H1 => ∃ m, x = V.int m ∧ ∃ n : Nat, (0 : Int) = 0 ∧ m = (n : Int) ∧ 1 ≤ n ∧ n ≤ 4 ∧ R (Itp n) H1
    have key : (fun (x : V) (H1 : Hp) => ∃ n : Nat, x = .int (n : Int) ∧ 1 ≤ n ∧ n ≤ 4 ∧ R (Itp n) H1) = fun x H1 => ∃ m, x = V.int m ∧ ∃ n : Nat, (0 : Int) = 0 ∧ m = (n : Int) ∧ 1 ≤ n ∧ n ≤ 4 ∧ R (Itp n) H1 := by
      funext x H1
      refine propext ⟨fun ⟨n, a, b, c, d⟩ => ⟨_, a, n, rfl, rfl, b, c, d⟩, fun ⟨m, a, n, _, b, c, d, e⟩ => ⟨n, by rw [a, b], c, d, e⟩⟩
    rw [← key]
    exact h)
  refine Call_ (ld_glob I hg hm (PyProof.Rows.callWith_type1 (args_cons (thn rg fun x s1 hx => args_nil ?_) na2) na2))
  obtain ⟨r, lo, hi, t, u, v, H1, rfl, hr, I1, n, rfl, rfl, h1, h4, q⟩ := hx
  have en : ((n : Int) - 0).toNat = n := by omega
  refine call_pm (n := n) (I1.ok.hd hc) hr (small_one (by decide) (by decide) (by omega) (by omega)) (by have := rangeSize_nat 0 (n : Int); rw [en] at this; exact this) h4 fun h' tk acc hk hacc => ?_
  have hz : (h'.push { cls := .type "tuple", data := .seq acc }).objs.size = h'.objs.size + 1 := Heap.size_push ..
  have eob : ((h'.push { cls := .type "tuple", data := .seq acc }).push (pObj h'.objs.size 0 n .none (List.range n ++ (List.range n).map fun i => n - i))).get? (h'.objs.size + 1) = some (pObj h'.objs.size 0 n .none (pst n 0)) := by
    have := Heap.get?_push_size (h'.push { cls := .type "tuple", data := .seq acc }) (o := pObj h'.objs.size 0 n .none (List.range n ++ (List.range n).map fun i => n - i)) rfl
    rw [hz] at this
    exact this
  have keep : ∀ b o, s1.heap.get? b = some o → ((h'.push { cls := .type "tuple", data := .seq acc }).push (pObj h'.objs.size 0 n .none (List.range n ++ (List.range n).map fun i => n - i))).get? b = some o := fun b o e =>
    Heap.get?_push_of_some _ (Heap.get?_push_of_some _ (hk b o e))
  have hv : Vals ((List.range n).map fun (m : Nat) => V.int (m : Int)) acc.toList := by
    have := vals_rg (a := 0) (b := (n : Int)) (acc := acc) (by rw [en]; exact hacc)
    unfold rgV at this
    rw [en] at this
    simpa using this
  refine iter_pm (it := h'.objs.size + 1) eob ?_
  have I2 : Inv X pins σ H1 { s1 with heap := (h'.push { cls := .type "tuple", data := .seq acc }).push (pObj h'.objs.size 0 n .none (List.range n ++ (List.range n).map fun i => n - i)), toks := tk } := I1.kept keep
  have I3 : Inv X pins σ H1 { s1 with heap := h', toks := tk } := I1.kept hk
  refine ⟨h'.objs.size + 1, [h'.objs.size + 1, h'.objs.size], _, _, H1, rfl, I2, turn_pm _ _ n acc h1 h4 hv, ⟨⟨_, eob⟩, ⟨_, Heap.get?_push_of_some _ (Heap.get?_push_size _ rfl), rfl, 0, rfl⟩, Nat.zero_le _⟩, fun b hb => ?_, q⟩
  have hle : h'.objs.size ≤ b := by
    rcases List.mem_cons.mp hb with z | z
    · rw [z]; exact Nat.le_succ _
    · rw [List.mem_singleton.mp z]; exact Nat.le_refl _
  exact I3.fpOk hle (I3.hok.fresh hle)
end K4P
end
section
/-! A set of tuples of ints made by a comprehension with two clauses and no tests. -/
namespace K4Q
open PySem PySem.Spec PyProof.Rows L2
abbrev Nev : Value → Shared → Prop := fun _ _ => False
section
variable {prog : Program} {w : World} {A : Around} {R : Result → Shared → Prop} {s : Shared} {elt t0 i0 t1 i1 : Expr} {scope : Scope} {pos : Pos} {it acc : Value} {env : Env}
/-- the outer loop: a turn leads to the inner one, and back -/
theorem sOut (hs : ∀ x, foldedSetIterable i1 env x = pure x) (I : Nat → Shared → Prop)
    (turn : ∀ n s, I n s → wpAny (model prog w) A (pyNext it) (fun r s1 => (r = none → R (.ok .next) s1) ∧ ∀ v, r = some v →
      wpAny (model prog w) A (letOwnedTupleGo t0 it v) (fun _ s2 => wpAny (model prog w) A (assign t0 env v) (fun _ s3 => wpAny (model prog w) A (eval i1 env) (fun x s4 => wpAny (model prog w) A (pyIter x) (fun j s5 =>
        codeAny (model prog w) A (.compStart (.SetComp elt [⟨t0, i0, [], 0⟩, ⟨t1, i1, [], 0⟩] scope pos) 1 j acc env) (fun r s' => (∃ f, r = .ok f) ∧ ∃ m, m < n ∧ I m s') s5) Nev s4) Nev s3) Nev s2) Nev s1) Nev s)
    (n : Nat) (h : I n s) : codeAny (model prog w) A (.compLoop (.SetComp elt [⟨t0, i0, [], 0⟩, ⟨t1, i1, [], 0⟩] scope pos) 0 it acc env) R s := by
  refine codeAny_loop rfl I (fun n s hI => ?_) n h
  show wpAny _ A ((compTurn _ 0 it acc env).onRaise _) _ _ s
  refine wpAny_noted ?_
  show wpAny _ A (standAt _ >>= _) _ _ s
  refine wpAny_bind (wpAny_standAt ?_)
  show wpAny _ A (pyNext it >>= _) _ _ s
  refine wpAny_bind (thnF (turn n s hI) fun r s1 ⟨q0, q1⟩ => ?_)
  cases r with
  | none => exact wpAny_pure (q0 rfl)
  | some v =>
    refine wpAny_bind (thnF (q1 v rfl) fun _ s2 q => ?_)
    refine wpAny_bind (thnF q fun _ s3 q => ?_)
    refine wpAny_bind (wpAny_pure ?_)
    refine wpAny_bind (thnF q fun x s4 q => ?_)
    refine wpAny_bind (wpAny_standAt (wpAny_bind (wpAny_of_eq (hs x) (wpAny_bind (wpAny_holding (thnF q fun j s5 q => ?_))))))
    refine wpAny_bind (wpAny_runOwn ?_)
    rw [Around.mark_none]
    refine codeAny_mono q fun r s' hr => ?_
    obtain ⟨⟨f, rfl⟩, hm⟩ := hr
    first
      | exact wpAny_pure ⟨rfl, hm⟩
      | exact wpAny_bind (wpAny_pure (wpAny_pure ⟨rfl, hm⟩))
/-- the inner loop -/
theorem sIn (I : Nat → Shared → Prop)
    (turn : ∀ n s, I n s → wpAny (model prog w) A (pyNext it) (fun r s1 => (r = none → R (.ok .next) s1) ∧ ∀ v, r = some v →
      wpAny (model prog w) A (letOwnedTupleGo t1 it v) (fun _ s2 => wpAny (model prog w) A (assign t1 env v) (fun _ s3 => wpAny (model prog w) A (eval elt env) (fun x s4 =>
        wpAny (model prog w) A (call (.builtin "set.add") [acc, x]) (fun _ s5 => ∃ m, m < n ∧ I m s5) Nev s4) Nev s3) Nev s2) Nev s1) Nev s)
    (n : Nat) (h : I n s) : codeAny (model prog w) A (.compLoop (.SetComp elt [⟨t0, i0, [], 0⟩, ⟨t1, i1, [], 0⟩] scope pos) 1 it acc env) R s := by
  refine codeAny_loop rfl I (fun n s hI => ?_) n h
  show wpAny _ A ((compTurn _ 1 it acc env).onRaise _) _ _ s
  refine wpAny_noted ?_
  show wpAny _ A (standAt _ >>= _) _ _ s
  refine wpAny_bind (wpAny_standAt ?_)
  show wpAny _ A (pyNext it >>= _) _ _ s
  refine wpAny_bind (thnF (turn n s hI) fun r s1 ⟨q0, q1⟩ => ?_)
  cases r with
  | none => exact wpAny_pure (q0 rfl)
  | some v =>
    refine wpAny_bind (thnF (q1 v rfl) fun _ s2 q => ?_)
    refine wpAny_bind (thnF q fun _ s3 q => ?_)
    refine wpAny_bind (wpAny_pure ?_)
    refine wpAny_bind (wpAny_bind (thnF q fun x s4 q => ?_))
    refine wpAny_bind (wpAny_standAt (wpAny_bind (thnF q fun _ s5 hm => ?_)))
    exact wpAny_pure (wpAny_pure ⟨rfl, hm⟩)
/-- the second clause's start -/
theorem sStart (h0 : codeAny (model prog w) A (.compLoop (.SetComp elt [⟨t0, i0, [], 0⟩, ⟨t1, i1, [], 0⟩] scope pos) 1 it acc env) R s)
    (h : wpAny (model prog w) A (pyIter it) (fun j s' => codeAny (model prog w) A (.compLoop (.SetComp elt [⟨t0, i0, [], 0⟩, ⟨t1, i1, [], 0⟩] scope pos) 1 j acc env) R s') Nev s) :
    codeAny (model prog w) A (.compStart (.SetComp elt [⟨t0, i0, [], 0⟩, ⟨t1, i1, [], 0⟩] scope pos) 1 it acc env) R s := by
  refine codeAny_of_tree ?_
  show wpAny _ _ ((compStart _ 1 it acc env).onRaise _) _ _ s
  refine wpAny_notedAt ?_
  unfold compStart
  show wpAny _ _ (ask >>= _) _ _ s
  refine wpAny_bind (wpAny_askSetting (wpAny_ite ?_))
  split
  · first
      | exact wpAny_bind (wpAny_pure (wpAny_pure (And.intro rfl h0)))
      | exact wpAny_pure (And.intro rfl h0)
  · refine wpAny_bind (wpAny_rule ?_)
    show wpAny _ _ (standAt _ >>= _) _ _ s
    refine wpAny_bind (wpAny_standAt (wpAny_bind (thnF h fun j s' q => ?_)))
    exact wpAny_pure (And.intro rfl q)
end
section
variable {X : Cx}
/-- set.add of a tuple of ints -/
theorem addT_ok {pins : List (Addr × Obj)} {σ : L2.St} {H : Hp} {s : Shared} {E : Value → Shared → Prop} {D T : Addr} {k : List Int} {L : List (Addr × List Int)} {Q : Value → Shared → Prop} (I : Inv X pins σ H s) (hu : X.A.units + 64 < cLine) (hD : H D = some (SetTO X.prog X.w D L))
    (hT : SqT X.K H T (k.map V.int)) (hL : ∀ p ∈ L, SqT X.K H p.1 (p.2.map V.int)) (few : L.length + 1 < 64)
    (h : ∀ s' L', Inv X pins σ (upd H D (SetTO X.prog X.w D L')) s' → (k ∈ L.map (·.2) → L' = L) → (k ∉ L.map (·.2) → L'.Perm ((T, k) :: L)) → Q .none s') : wpAny (model X.prog X.w) X.A (call (.builtin "set.add") [.ref D, .ref T]) Q E s := by
  have R0 : SetT0 X.prog X.w s.heap D L := (I.hok D _ hD).1
  obtain ⟨es, ep, t, R⟩ := R0.full fun p hp => I.isT (hL p hp)
  obtain ⟨o, ho, hex, hd⟩ := R.ob
  have hTs : s.TypeIs (.ref D) "set" := ⟨o, ho, hex.1⟩
  have hx : IsT X.prog X.w s.heap k T := I.isT hT
  refine wpAny_call_entry F.slot_set_add hTs F.entry_set_add ?_ (F.args_set_add_2 _ _)
  unfold Builtin.«set.add» Builtin.Frozenset.oneOther
  simp only [List.isEmpty_nil, bind_assoc]
  unfold Builtin.Frozenset.addrOf setAdd
  refine wpAny_bind (wpAny_pure ?_)
  try dsimp only
  refine wpAny_bind (wpAny_pure ?_)
  try dsimp only
  refine wpAny_bind (wpAny_holding ?_)
  have hu1 : X.A.in1.units < cLine := by
    show X.A.units + 1 < cLine
    omega
  refine wpAny_bind (wpAny_pyHash_tuple hu1 hx ?_)
  have R2 : SetTR X.prog X.w ({ s with toks := s.toks + (k.length + 1) } : Shared).heap D L es ep t := R
  refine add_at (s := { s with toks := s.toks + (k.length + 1) }) R2 hx hu1 few fun b h' L' es' ep' t' sb R' c1 c2 => ?_
  refine wpAny_pure ⟨_, rfl, h _ L' ?_ c1 c2⟩
  have hg : ∃ u, h'.get? D = some u := by
    obtain ⟨o', ho', _⟩ := R'.ob
    exact ⟨o', ho'⟩
  exact I.write (e := D) (t' := s.toks + (k.length + 1)) (by rw [hD]; trivial) (.inl rfl) (fun b u hb e => (sb.2 b hb).trans e) hg (setTO_new R'.t0)
end
end K4Q
end
section
namespace K4Q
open PySem PySem.Spec PyProof.Rows L2
section
variable {X : Cx}
/-- the inner loop's reading: from each tuple made the set at D goes on -/
def tIn (P : Program) (w : World) (K : PySem.W.Frag) (wi1 : TI) (g1 : TG) (te : TE) (vs1 : List Nat) (D : Addr) (σ2 : L2.St) (H : Hp) (Nx : Hp → Prop) : Prop :=
  wi1 σ2 H fun J1 H4 => ∃ W1 : Nat → Nat → Hp → Prop, (∃ m, W1 0 m H4) ∧ ∀ j k H, W1 j k H →
    (J1.stop j H ∧ Nx H) ∨ (J1.go j H ∧ ∃ Nx1 : Hp → Prop, (∀ H', Nx1 H' → ∃ k', k' < k ∧ W1 (j + 1) k' H') ∧ ∀ x H', J1.yld j H x H' → g1 x (wipe σ2 vs1) H' fun σ3 H5 => wipe σ3 vs1 = wipe σ2 vs1 ∧
      te σ3 H5 fun y H7 => ∃ (T : Addr) (k : List Int) (L : List (Addr × List Int)), y = .ref T ∧ SqT K H7 T (k.map V.int) ∧ H7 D = some (SetTO P w D L) ∧ (∀ p ∈ L, SqT K H7 p.1 (p.2.map V.int)) ∧ L.length + 1 < 64 ∧
        ∀ L', (k ∈ L.map (·.2) → L' = L) → (k ∉ L.map (·.2) → L'.Perm ((T, k) :: L)) → Nx1 (upd H7 D (SetTO P w D L')))
/-- {elt for t0 in i0 for t1 in i1}: a new set -/
def tSc2 (P : Program) (w : World) (K : PySem.W.Frag) (wi : TI) (g : TG) (wi1 : TI) (g1 : TG) (te : TE) (vs vs1 : List Nat) : TE := fun σ H Q => wi σ H fun J H1 => ∀ D, H1 D = none → ∃ W : Nat → Nat → Hp → Prop, (∃ m, W 0 m (upd H1 D (SetTO P w D []))) ∧ ∀ i m H, W i m H →
  (J.stop i H ∧ Q (.ref D) H) ∨ (J.go i H ∧ ∃ Nx : Hp → Prop, (∀ H', Nx H' → ∃ m', m' < m ∧ W (i + 1) m' H') ∧ ∀ x H', J.yld i H x H' → g x (wipe σ vs) H' fun σ2 H2 => wipe σ2 vs = wipe σ vs ∧ tIn P w K wi1 g1 te vs1 D σ2 H2 Nx)
/-- what an iterator's records keep through a stretch -/
theorem kept_pins {Y : Cx} {ps : List (Addr × Obj)} {fp : List Addr} {σ' : L2.St} {H' : Hp} {s s' : Shared} (I : Inv Y (ps ++ pinsAt fp s.heap) σ' H' s') : ∀ b ∈ fp, ∀ o, s.heap.get? b = some o → s'.heap.get? b = some o ∧ H' b = none := fun b hb o e =>
  let z := I.pin (b, o) (List.mem_append_right _ (List.mem_append_right _ (mem_pinsAt hb e)))
  ⟨z.1, z.2.1⟩
theorem pe_sc2 {elt t0 i0 t1 i1 : Expr} {scope : Scope} {own : List (PySem.Str × Nat)} {vs1 : List Nat} {pos : Pos} {wi wi1 : TI} {g g1 : TG} {te : TE} (hc : X.calm = true) (hu : X.A.units + 64 < cLine) (hN : X.N.Nodup) (hi : PI X t0 i0 wi) (ok : BlkOk X.N X.env.scope scope own) (hv : ∀ i ∈ vs1, i ∈ own.map (·.2))
    (hg : ∀ (s : Shared) (H : Hp) (C : Addr) (cl : List (PySem.Str × Addr)) (fp : List Addr), PG (X.blk s H scope (compEnvC scope cl C X.env) fp) t0 g)
    (hi1 : ∀ (s : Shared) (H : Hp) (C : Addr) (cl : List (PySem.Str × Addr)) (fp : List Addr), PI (X.blk s H scope (compEnvC scope cl C X.env) fp) t1 i1 wi1)
    (hg1 : ∀ (s : Shared) (H : Hp) (C : Addr) (cl : List (PySem.Str × Addr)) (fp : List Addr), PG (X.blk s H scope (compEnvC scope cl C X.env) fp) t1 g1)
    (he : ∀ (s : Shared) (H : Hp) (C : Addr) (cl : List (PySem.Str × Addr)) (fp : List Addr), PE (X.blk s H scope (compEnvC scope cl C X.env) fp) elt te)
    (hs : ∀ x, foldedSetIterable i0 X.env x = pure x := by intro _; rfl) (hs1 : ∀ env x, foldedSetIterable i1 env x = pure x := by intro _ _; rfl) :
    PE X (.SetComp elt [⟨t0, i0, [], 0⟩, ⟨t1, i1, [], 0⟩] scope pos) (tSc2 X.prog X.w X.K wi g wi1 g1 te (own.map (·.2)) vs1) := by
  refine ⟨fun pins s σ H Q I h => ?_⟩
  rw [PpSet.eval_SetComp]
  have hfree : ∀ y ∈ scope.names, y.2 = .free → ∃ c, X.env.cells.lookup y.1 = some c := fun y hy e => (ok.free y hy e).elim (fun k => I.ok.has _ (.inl k)) fun k => I.ok.has _ (.inr k)
  refine wpAny_comprehension_free (use := none) rfl hs (closure_ok hfree) ok.kind (fun y hy e => by rw [ok.uniq y hy, e]) (thn (hi.run pins s σ H _ I h) fun xv s1 hx => thn hx fun itv s2 h2 => ?_)
  obtain ⟨it, fp, tn, J, H2, rfl, I2, T, st2, f2, q⟩ := h2
  -- the new set
  refine PpSet.newSet_ok (newEnv_comp ?_)
  generalize hD : s2.heap.objs.size = D
  have hDn : H2 D = none := I2.hok.fresh (Nat.le_of_eq hD)
  obtain ⟨W, ⟨m0, w0⟩, turn⟩ := q D hDn
  generalize hso : ({ cls := .type "set", dict := none, data := .set #[] 0 (.fresh 0 0 (!X.w.params.followText "set-order")) } : Obj) = so
  have up : ∀ b o, s2.heap.get? b = some o → (s2.heap.push so).get? b = some o := fun b o e => Heap.get?_push_of_some _ e
  have fresh : SetT0 X.prog X.w (s2.heap.push so) D [] := by
    refine (setTR_fresh ?_).t0
    rw [← hso, ← hD]
    exact Heap.get?_push_size _ rfl
  have I3 : Inv X pins σ (upd H2 D (SetTO X.prog X.w D [])) { s2 with heap := s2.heap.push so } := I2.laid (t' := s2.toks) up (Nat.le_of_eq hD) (setTO_new fresh)
  generalize hH3 : upd H2 D (SetTO X.prog X.w D []) = H3 at I3 w0
  generalize hs3 : ({ s2 with heap := s2.heap.push so } : Shared) = s3 at I3
  have h3 : s3.heap = s2.heap.push so := by rw [← hs3]
  have f3 : ∀ b ∈ fp, FpOk X pins H3 b ∧ b < s3.heap.objs.size := fun b hb => by
    obtain ⟨o, e, _⟩ := T.obj _ _ st2 b hb
    have hlt := Heap.lt_size e
    refine ⟨⟨?_, (f2 b hb).2⟩, ?_⟩
    · rw [← hH3, upd_ne (by rw [← hD]; exact Nat.ne_of_lt hlt)]
      exact (f2 b hb).1
    · rw [h3, Heap.size_push]
      exact Nat.lt_succ_of_lt hlt
  have nfp : ∀ b ∈ fp, H3 b = none := fun b hb => (f3 b hb).1.1
  -- the block
  have I4 := block_start I3 ok hN f3
  have pg := hg s3 H3 s3.heap.objs.size (cellsFrom (s3.heap.objs.size + 1) scope.names (cloFrom X.env.cells scope.names [])) fp
  have pe := he s3 H3 s3.heap.objs.size (cellsFrom (s3.heap.objs.size + 1) scope.names (cloFrom X.env.cells scope.names [])) fp
  have pi1 := hi1 s3 H3 s3.heap.objs.size (cellsFrom (s3.heap.objs.size + 1) scope.names (cloFrom X.env.cells scope.names [])) fp
  have pg1 := hg1 s3 H3 s3.heap.objs.size (cellsFrom (s3.heap.objs.size + 1) scope.names (cloFrom X.env.cells scope.names [])) fp
  show codeAny _ _ (.compStart _ 0 (.ref it) (.ref D) (compEnvC scope (cellsFrom (s3.heap.objs.size + 1) scope.names (cloFrom X.env.cells scope.names [])) s3.heap.objs.size X.env)) _ { s3 with heap := pushCells (s3.heap.push { cls := .type "dict", data := .dict #[] }) scope.names }
  generalize hce : compEnvC scope (cellsFrom (s3.heap.objs.size + 1) scope.names (cloFrom X.env.cells scope.names [])) s3.heap.objs.size X.env = ce at I4 pg pe pi1 pg1 ⊢
  have cL : ce.locals = s3.heap.objs.size := by subst hce; rfl
  have st4 : tn 0 (pushCells (s3.heap.push { cls := .type "dict", data := .dict #[] }) scope.names) := T.keep _ _ _ st2 fun b _ o e => pushCells_keeps _ _ _ _ (Heap.get?_push_of_some _ (by rw [h3]; exact up b o e))
  generalize hs4 : ({ s3 with heap := pushCells (s3.heap.push { cls := .type "dict", data := .dict #[] }) scope.names } : Shared) = s4 at I4 ⊢
  have st4 : tn 0 s4.heap := by rw [← hs4]; exact st4
  have stat : ∀ {σ' : L2.St} {H' : Hp} {s' : Shared}, Inv (X.blk s3 H3 scope ce fp) [] σ' H' s' → (∀ b ∈ fp, H' b = none) → ∀ b ∈ fp, FpOk (X.blk s3 H3 scope ce fp) [] H' b := fun {σ' H' s'} I' hn b hb =>
    ⟨hn b hb, (I'.ok.exf b hb).1, I'.ok.exfs b hb, .inl hb, fun x c e => (I'.ok.exf b hb).2 x c e, fun p hp => absurd (show p ∈ ([] : List (Addr × Obj)) ++ [] from hp) (by simp)⟩
  suffices loop : codeAny (model X.prog X.w) X.A (.compLoop (.SetComp elt [⟨t0, i0, [], 0⟩, ⟨t1, i1, [], 0⟩] scope pos) 0 (.ref it) (.ref D) ce) (compPost (model X.prog X.w) X.A X.xe none (EP X pins σ Q) (.ref D) s3.heap.objs.size) s4 from
    PpSet.codeAny_compStart_set loop (T.self X.A 0 _ _ _ st4 loop)
  refine sOut (hs1 ce) (fun n s' => ∃ i H', Inv (X.blk s3 H3 scope ce fp) [] (wipe σ (own.map (·.2))) H' s' ∧ tn i s'.heap ∧ (∀ b ∈ fp, H' b = none) ∧ W i n H') ?_ m0 ⟨0, H3, I4, st4, nfp, w0⟩
  rintro n s5 ⟨i, H5, I5, st5, n5, w5⟩
  rcases turn i n H5 w5 with ⟨stop, qq⟩ | ⟨go, Nx, hNx, step⟩
  · -- the end: back in the def
    refine thn (T.done (X.blk s3 H3 scope ce fp) rfl rfl rfl hc i [] s5 _ H5 _ I5 (stat I5 n5) st5 stop) fun r s6 ⟨hr, I6⟩ => ⟨fun _ => ?_, fun v e => by rw [hr] at e; cases e⟩
    have I7 : Inv X pins σ H5 s6 := I3.call' (ch := fp) I6.os I6.base I6.hok I6.bare fun b hb => ⟨(f3 b hb).1.2.2.2.1, (f3 b hb).1.2.1, (f3 b hb).1.2.2.2.2.1, (f3 b hb).1.2.2.2.2.2⟩
    have nC : H5 s3.heap.objs.size = none := by
      have z : H5 ce.locals = none := I6.free
      rw [cL] at z
      exact z
    obtain ⟨m, hn, _⟩ := I6.loc
    have hn : s6.heap.Ns ce.locals m := hn
    rw [cL] at hn
    obtain ⟨c0, c1, c2, c3, c4, c5⟩ := I3.fpOk (Nat.le_refl _) nC
    exact ⟨m, hn, fun h'' sb => ⟨.ref D, H5, I7.turned (t' := s6.toks) (fun b o hb e => (sb.2 b hb).trans e) c0 c1 c3 c4 c5, rfl, qq⟩⟩
  · -- a turn
    refine thn (T.item (X.blk s3 H3 scope ce fp) rfl rfl rfl hc i [] s5 _ H5 _ I5 (stat I5 n5) st5 go) fun r s6 ⟨u, hr, h6⟩ => ⟨fun e => (by rw [hr] at e; cases e), fun v e => ?_⟩
    rw [hr] at e
    cases e
    refine thn h6 fun _ s7 ⟨x, H7, I7, r7, y7, st7, n7⟩ => ?_
    have I7' := I7.pinned (stat I7 n7) (T.obj _ _ st7)
    refine thn (pg.run _ s7 _ H7 x u _ I7' r7 (step x H7 y7)) fun _ s8 ⟨σ8, H8, I8, hw8, q8⟩ => ?_
    -- how the turn ends
    have hk8 : ∀ (j : Nat) v, (wipe σ (own.map (·.2)))[j]? = some (some v) → (wipe σ8 vs1)[j]? = some (some v) := fun j v e => by
      rw [← hw8] at e
      obtain ⟨e1, e2⟩ := wipe_some e
      rw [wipe_out fun z => e2 (hv j z)]
      exact e1
    have fin : ∀ {s' : Shared} {H' : Hp}, Inv (X.blk s3 H3 scope ce fp) ([] ++ pinsAt fp s7.heap) (wipe σ8 vs1) H' s' → Nx H' →
        ∃ m, m < n ∧ ∃ i H', Inv (X.blk s3 H3 scope ce fp) [] (wipe σ (own.map (·.2))) H' s' ∧ tn i s'.heap ∧ (∀ b ∈ fp, H' b = none) ∧ W i m H' := fun {s' H'} I' nx => by
      obtain ⟨m', hm, w'⟩ := hNx H' nx
      have kp := kept_pins I'
      refine ⟨m', hm, i + 1, H', (I'.unpinned (pins := [])).weak ?_ hk8, T.keep _ _ _ st7 fun b hb o e => (kp b hb o e).1, fun b hb => ?_, w'⟩
      · have l1 : (wipe σ8 (own.map (·.2))).length = (wipe σ (own.map (·.2))).length := congrArg List.length hw8
        rw [wipe_length, wipe_length] at l1
        rw [wipe_length, wipe_length]
        exact l1.symm
      · obtain ⟨o, e, _⟩ := T.obj _ _ st7 b hb
        exact (kp b hb o e).2
    -- the inner walk
    refine thn (pi1.run _ s8 σ8 H8 _ I8 q8) fun xv s10 hx => thn hx fun itv s11 h11 => ?_
    obtain ⟨it1, fp1, tn1, J1, H11, rfl, I11, T1, st11, f11, W1, ⟨m1, w1⟩, turn1⟩ := h11
    have stat1 : ∀ {H' : Hp}, (∀ b ∈ fp1, H' b = none) → ∀ b ∈ fp1, FpOk (X.blk s3 H3 scope ce fp) ([] ++ pinsAt fp s7.heap) H' b := fun hn b hb => ⟨hn b hb, (f11 b hb).2⟩
    suffices loop1 : codeAny (model X.prog X.w) X.A (.compLoop (.SetComp elt [⟨t0, i0, [], 0⟩, ⟨t1, i1, [], 0⟩] scope pos) 1 (.ref it1) (.ref D) ce)
        (fun r s' => (∃ f, r = .ok f) ∧ ∃ m, m < n ∧ ∃ i H', Inv (X.blk s3 H3 scope ce fp) [] (wipe σ (own.map (·.2))) H' s' ∧ tn i s'.heap ∧ (∀ b ∈ fp, H' b = none) ∧ W i m H') s11 from sStart loop1 (T1.self X.A 0 _ _ _ st11 loop1)
    refine sIn (fun k s' => ∃ j H', Inv (X.blk s3 H3 scope ce fp) ([] ++ pinsAt fp s7.heap) (wipe σ8 vs1) H' s' ∧ tn1 j s'.heap ∧ (∀ b ∈ fp1, H' b = none) ∧ W1 j k H') ?_ m1
      ⟨0, H11, I11.weak (wipe_length _ _) (fun j v e => (wipe_some e).1), st11, fun b hb => (f11 b hb).1, w1⟩
    rintro k s12 ⟨j, H12, I12, st12, n12, w12⟩
    rcases turn1 j k H12 w12 with ⟨stop1, nx1⟩ | ⟨go1, Nx1, hNx1, step1⟩
    · refine thn (T1.done (X.blk s3 H3 scope ce fp) rfl rfl rfl hc j _ s12 (wipe σ8 vs1) H12 _ I12 (stat1 n12) st12 stop1) fun r s13 ⟨hr, I13⟩ => ⟨fun _ => ⟨⟨_, rfl⟩, fin I13 nx1⟩, fun v e => by rw [hr] at e; cases e⟩
    · refine thn (T1.item (X.blk s3 H3 scope ce fp) rfl rfl rfl hc j _ s12 (wipe σ8 vs1) H12 _ I12 (stat1 n12) st12 go1) fun r s13 ⟨u1, hr, h13⟩ => ⟨fun e => (by rw [hr] at e; cases e), fun v e => ?_⟩
      rw [hr] at e
      cases e
      refine thn h13 fun _ s14 ⟨x1, H14, I14, r14, y14, st14, n14⟩ => ?_
      have I14' := I14.pinned (stat1 n14) (T1.obj _ _ st14)
      refine thn (pg1.run _ s14 (wipe σ8 vs1) H14 x1 u1 _ I14' r14 (step1 x1 H14 y14)) fun _ s15 ⟨σ15, H15, I15, hw15, q15⟩ => ?_
      refine thn (pe.run _ s15 σ15 H15 _ I15 q15) fun z s17 ⟨yv, H17, I17, r17, T0, k0, L0, ey, hT0, hD0, hL0, hf0, nx⟩ => ?_
      subst ey
      cases (show z = Value.ref T0 from r17)
      refine addT_ok (X := X.blk s3 H3 scope ce fp) I17 hu hD0 hT0 hL0 hf0 fun s18 L' I18 c1 c2 => ?_
      obtain ⟨m', hm, w'⟩ := hNx1 _ (nx L' c1 c2)
      have kp := kept_pins I18
      refine ⟨m', hm, j + 1, _, I18.unpinned.weak (by rw [← hw15, wipe_length]) (fun j v e => by rw [← hw15] at e; exact (wipe_some e).1), T1.keep _ _ _ st14 fun b hb o e => (kp b hb o e).1, fun b hb => ?_, w'⟩
      obtain ⟨o, e, _⟩ := T1.obj _ _ st14 b hb
      exact (kp b hb o e).2
end
end K4Q
end
section
namespace K4
open PySem L2
/-! ### the text by places -/
def topS (i : Nat) : Stmt := PySem.Challenge.pw_peermend_k04_whole_numbering.main.body.getD i (.Pass ⟨0, 0, 0, 0⟩)
/-! ### values -/
abbrev vN (n : Nat) : V := .int (n : Int)
abbrev vL (l : List Nat) : List V := l.map vN
/-- the written dict of shapes -/
abbrev ShX := List (List Nat × Addr × Str × Tok)
structure Shp (K : PySem.W.Frag) (d : Addr) (xs : ShX) : Prop where
  ns : (d == sysModules) = false
  ob : ∃ o es ep, K.lookup d = some o ∧ o.ExactDict ∧ o.data = .dict es ep ∧ es.toList = xs.map fun x => (⟨reduceHash (Builtin.Tuple.tupleHashOf ((x.1.map fun n : Nat => (n : Int)).map hashInt)), .ref x.2.1, .str x.2.2.1 x.2.2.2⟩ : DictEntry)
  ks : ∀ x ∈ xs, ∃ (o : Obj) (its : Array Value) (n : Nat), K.lookup x.2.1 = some o ∧ o.cls = .type "tuple" ∧ o.data = .seq its n ∧ its.size ≤ sizeLine ∧ Vals (vL x.1) its.toList
  nd : (xs.map (·.1)).Nodup
/-- where things stand behind the top -/
structure Ad where
  f : Nat → Addr
  fd : Nat → FuncData
  tL : Tok
  aF : Addr
  aS : Addr
  cE : Addr
  shx : ShX
  iE : Addr
structure Txt (K : PySem.W.Frag) (mg : Str → Option Value) (a : Ad) : Prop where
  n_len : mg "len" = none
  n_range : mg "range" = none
  n_list : mg "list" = none
  n_tuple : mg "tuple" = none
  n_int : mg "int" = none
  n_sum : mg "sum" = none
  n_min : mg "min" = none
  n_max : mg "max" = none
  n_sorted : mg "sorted" = none
  n_enumerate : mg "enumerate" = none
  n_zip : mg "zip" = none
  n_divmod : mg "divmod" = none
  n_isinstance : mg "isinstance" = none
  n_bool : mg "bool" = none
  m_comb : mg "comb" = some (.builtin "math.comb")
  m_permutations : mg "permutations" = some (.type "itertools.permutations")
  mLARGEST : mg "LARGEST" = some (.int 4 a.tL)
  mFORM : mg "FORM_COUNTS" = some (.ref a.aF)
  form : ∀ H, SqT K H a.aF [.int 0, .int 1, .int 3, .int 12, .int 42]
  mSHAPES : mg "SHAPES" = some (.ref a.aS)
  shp : Shp K a.aS a.shx
  shk : a.shx.map (·.1) = K4.shp
  m_check_image : mg "check_image" = some (.ref (a.f 8))
  f_check_image : Fun K "check_image" "check_image" (topS 8) (a.f 8) (a.fd 8)
  m_groups : mg "groups" = some (.ref (a.f 9))
  f_groups : Fun K "groups" "groups" (topS 9) (a.f 9) (a.fd 9)
  m_walk : mg "_walk" = some (.ref (a.f 13))
  f_walk : Fun K "_walk" "_walk" (topS 13) (a.f 13) (a.fd 13)
  m_form_of : mg "form_of" = some (.ref (a.f 14))
  f_form_of : Fun K "form_of" "form_of" (topS 14) (a.f 14) (a.fd 14)
  m_pieces : mg "pieces" = some (.ref (a.f 15))
  f_pieces : Fun K "pieces" "pieces" (topS 15) (a.f 15) (a.fd 15)
  m_choose : mg "choose" = some (.ref (a.f 18))
  f_choose : Fun K "choose" "choose" (topS 18) (a.f 18) (a.fd 18)
  m_key_of : mg "key_of" = some (.ref (a.f 19))
  f_key_of : Fun K "key_of" "key_of" (topS 19) (a.f 19) (a.fd 19)
  m_count_images : mg "count_images" = some (.ref (a.f 20))
  f_count_images : Fun K "count_images" "count_images" (topS 20) (a.f 20) (a.fd 20)
  m_torn_counts : mg "torn_counts" = some (.ref (a.f 21))
  f_torn_counts : Fun K "torn_counts" "torn_counts" (topS 21) (a.f 21) (a.fd 21)
  m_totals : mg "totals" = some (.ref (a.f 22))
  f_totals : Fun K "totals" "totals" (topS 22) (a.f 22) (a.fd 22)
  m_block : mg "_block" = some (.ref (a.f 23))
  f_block : Fun K "_block" "_block" (topS 23) (a.f 23) (a.fd 23)
  m_names : mg "_names" = some (.ref (a.f 24))
  f_names : Fun K "_names" "_names" (topS 24) (a.f 24) (a.fd 24)
  m_patterns : mg "_patterns" = some (.ref (a.f 25))
  f_patterns : Fun K "_patterns" "_patterns" (topS 25) (a.f 25) (a.fd 25)
  m_set_number : mg "_set_number" = some (.ref (a.f 26))
  f_set_number : Fun K "_set_number" "_set_number" (topS 26) (a.f 26) (a.fd 26)
  m_set_at : mg "_set_at" = some (.ref (a.f 27))
  f_set_at : Fun K "_set_at" "_set_at" (topS 27) (a.f 27) (a.fd 27)
  m_image_number : mg "image_number" = some (.ref (a.f 28))
  f_image_number : Fun K "image_number" "image_number" (topS 28) (a.f 28) (a.fd 28)
  m_image_at : mg "image_at" = some (.ref (a.f 29))
  f_image_at : Fun K "image_at" "image_at" (topS 29) (a.f 29) (a.fd 29)
  m_law_bag : mg "_law_bag" = some (.ref (a.f 31))
  f_law_bag : Fun K "_law_bag" "_law_bag" (topS 31) (a.f 31) (a.fd 31)
  m_law_take : mg "_law_take" = some (.ref (a.f 32))
  f_law_take : Fun K "_law_take" "_law_take" (topS 32) (a.f 32) (a.fd 32)
  m_law_order : mg "_law_order" = some (.ref (a.f 33))
  f_law_order : Fun K "_law_order" "_law_order" (topS 33) (a.f 33) (a.fd 33)
  m_law_wide : mg "_law_wide" = some (.ref (a.f 34))
  f_law_wide : Fun K "_law_wide" "_law_wide" (topS 34) (a.f 34) (a.fd 34)
  m_law_pattern : mg "_law_pattern" = some (.ref (a.f 35))
  f_law_pattern : Fun K "_law_pattern" "_law_pattern" (topS 35) (a.f 35) (a.fd 35)
  m_law_built : mg "_law_built" = some (.ref (a.f 36))
  f_law_built : Fun K "_law_built" "_law_built" (topS 36) (a.f 36) (a.fd 36)
  m_law_in_all : mg "_law_in_all" = some (.ref (a.f 37))
  f_law_in_all : Fun K "_law_in_all" "_law_in_all" (topS 37) (a.f 37) (a.fd 37)
  m_law_is : mg "_law_is" = some (.ref (a.f 38))
  f_law_is : Fun K "_law_is" "_law_is" (topS 38) (a.f 38) (a.fd 38)
  m_law_joined : mg "_law_joined" = some (.ref (a.f 39))
  f_law_joined : Fun K "_law_joined" "_law_joined" (topS 39) (a.f 39) (a.fd 39)
  m_law_orders : mg "_law_orders" = some (.ref (a.f 40))
  f_law_orders : Fun K "_law_orders" "_law_orders" (topS 40) (a.f 40) (a.fd 40)
  m_law_has_form : mg "_law_has_form" = some (.ref (a.f 41))
  f_law_has_form : Fun K "_law_has_form" "_law_has_form" (topS 41) (a.f 41) (a.fd 41)
  m_law_keys : mg "_law_keys" = some (.ref (a.f 42))
  f_law_keys : Fun K "_law_keys" "_law_keys" (topS 42) (a.f 42) (a.fd 42)
  m_law_numbered : mg "_law_numbered" = some (.ref (a.f 43))
  f_law_numbered : Fun K "_law_numbered" "_law_numbered" (topS 43) (a.f 43) (a.fd 43)
  m_law_refused : mg "_law_refused" = some (.ref (a.f 44))
  f_law_refused : Fun K "_law_refused" "_law_refused" (topS 44) (a.f 44) (a.fd 44)
  m_law_road_back : mg "_law_road_back" = some (.ref (a.f 45))
  f_law_road_back : Fun K "_law_road_back" "_law_road_back" (topS 45) (a.f 45) (a.fd 45)
  m_law_size : mg "_law_size" = some (.ref (a.f 46))
  f_law_size : Fun K "_law_size" "_law_size" (topS 46) (a.f 46) (a.fd 46)
  m_law : mg "law" = some (.ref (a.f 47))
  f_law : Fun K "law" "law" (topS 47) (a.f 47) (a.fd 47)
section
variable {X : Cx}
theorem comb_small : ∀ m, m < 64 → ∀ k, k < 4 → k ≤ m → PySem.W.mcComb ((m : Nat) : Int) ((k : Nat) : Int) = ((chF m k : Nat) : Int) := by decide +kernel
def rComb : List V → Hp → VK → Prop := fun vs H Q => ∃ m k : Nat, vs = [vN m, vN k] ∧ m < 64 ∧ k < 4 ∧ k ≤ m ∧ Q (vN (ch m k)) H
theorem cr_comb : CallR X (.builtin "math.comb") rComb := by
  intro pins s σ H vs us Q I r h
  obtain ⟨m, k, rfl, hm, hk, hkm, q⟩ := h
  obtain ⟨t, u, rfl⟩ := Vals.int2 r
  have e : PySem.W.mcComb ((m : Nat) : Int) ((k : Nat) : Int) = ((ch m k : Nat) : Int) := by rw [ch_F hk]; exact comb_small m hm k hk hkm
  exact PySem.W.mc_comb_v (Int.natCast_nonneg _) (Int.natCast_nonneg _) (by omega) (.inl (by omega)) e ⟨vN (ch m k), H, I.tok _, ⟨_, rfl⟩, q⟩
end
/-! ### lists of numbers -/
theorem vL_get {l : List Nat} {i : Nat} (h : i < l.length) : (vL l)[i]? = some (vN (l.getD i 0)) := by
  simp [List.getD_eq_getElem?_getD, h]
theorem vL_at {l : List Nat} {i : Nat} (h : i < l.length) : atI (vL l) ((i : Nat) : Int) = some (vN (l.getD i 0)) := atI_nat (vL_get h)
theorem sz64 {n : Nat} (h : n ≤ 100) : n ≤ sizeLine := Nat.le_trans h (by decide)
theorem sz64' {n : Nat} (h : n ≤ 100) : n < sizeLine := Nat.lt_of_le_of_lt h (by decide)
end K4
end
section
namespace K4
open PySem L2
section
variable {P : Program} {w : World} {K : PySem.W.Frag} {mg : Str → Option Value} {base : Heap} {a : Ad}
abbrev s_choose : Stmt := topS 18
abbrev N_choose : List Str := ["m", "k"]
theorem sc_choose : FnScope N_choose ["m", "k"] (defScope s_choose) := ⟨rfl, rfl, rfl, by decide +kernel, rfl, by decide +kernel, by decide +kernel⟩
def spChoose : Sp := fun vs H Q _ => ∃ m k : Nat, vs = [vN m, vN k] ∧ m < 64 ∧ k < 4 ∧ Q (vN (ch m k)) H
theorem B_choose (T : Txt K mg a) : Binds K (a.fd 18) ["m", "k"] [] := T.f_choose.binds fun _ _ _ _ _ _ us hl => match us, hl with | [_, _], _ => rfl
theorem G_choose (T : Txt K mg a) : FnOk P w K mg base CX0 1 (a.f 18) (a.fd 18) ["m", "k"] spChoose := by
  refine T.f_choose.ok sc_choose (fun vs H Q E h => ?_) (fun cdv A outer s H vs Q E hr h => ?_)
  · obtain ⟨m, k, rfl, _⟩ := h
    rfl
  · obtain ⟨m, k, rfl, hm, hk, q⟩ := h
    refine ⟨_, (pss_cons (ps_if (PW.pt (pw_or (pt_cmpR op_lt (pv 1) pe_int (nomark _)) (pw_or1 (pt_cmpR op_gt (pv 1) (pv 0) (nomark _)))))
        (pss_one (ps_ret pe_int))
        pss_nil)
      (pss_one (ps_ret (pe_callBfun cr_comb rfl T.m_comb (pa_cons (pv 0) (pa_cons (pv 1) pa_nil)))))), ?_⟩
    refine ⟨_, rfl, _, _, rfl, rfl, _, rfl, ?_⟩
    rw [decide_eq_false (by omega)]
    refine iteF ⟨_, rfl, _, rfl, _, _, rfl, rfl, _, rfl, ?_⟩
    refine ite2 (fun c => ?_) (fun c => ?_)
    · have c' : m < k := by
        have := of_decide_eq_true c
        omega
      rw [ch_big m k c'] at q
      exact q
    · have c' : k ≤ m := by
        have : ¬ ((m : Int) < (k : Int)) := fun z => c (decide_eq_true z)
        omega
      exact ⟨_, rfl, _, rfl, m, k, rfl, hm, hk, c', q⟩
abbrev s_block : Stmt := topS 23
abbrev N_block : List Str := ["counts", "n", "many"]
theorem sc_block : FnScope N_block ["counts", "n", "many"] (defScope s_block) := ⟨rfl, rfl, rfl, by decide +kernel, rfl, by decide +kernel, by decide +kernel⟩
theorem two_eq {x y : Int} {m k : Nat} (h1 : x = m) (h2 : y = k) : [V.int x, V.int y] = [vN m, vN k] := by rw [h1, h2]
theorem F_at {k : Nat} (h1 : 1 ≤ k) (h4 : k ≤ 4) : atI [V.int 0, V.int 1, V.int 3, V.int 12, V.int 42] ((k : Nat) : Int) = some (vN (F k)) := by
  rcases (by omega : k = 1 ∨ k = 2 ∨ k = 3 ∨ k = 4) with rfl | rfl | rfl | rfl <;> rfl
theorem F_le {k : Nat} (h1 : 1 ≤ k) (h4 : k ≤ 4) : F k ≤ 42 := by
  rcases (by omega : k = 1 ∨ k = 2 ∨ k = 3 ∨ k = 4) with rfl | rfl | rfl | rfl <;> decide
theorem small_mul {x : Int} {n : Nat} (h : x = (n : Int)) (hn : n < 18446744073709551616) {y : Int} : CMul x y := .inl ⟨by omega, by omega⟩
def spBlock (K : PySem.W.Frag) : Sp := fun vs H Q _ => ∃ (ca : Addr) (found : List Nat) (n many : Nat), vs = [.ref ca, vN n, vN many] ∧ SqL K H ca (vL found) ∧ 1 ≤ many ∧ many ≤ 4 ∧ many ≤ n ∧ n ≤ 64 ∧ n - many < found.length ∧ Q (vN (blkL found n many)) H
theorem B_block (T : Txt K mg a) : Binds K (a.fd 23) ["counts", "n", "many"] [] := T.f_block.binds fun _ _ _ _ _ _ us hl => match us, hl with | [_, _, _], _ => rfl
theorem G_block (T : Txt K mg a) : FnOk P w K mg base CX0 2 (a.f 23) (a.fd 23) ["counts", "n", "many"] (spBlock K) := by
  refine T.f_block.ok sc_block (fun vs H Q E h => ?_) (fun cdv A outer s H vs Q E hr h => ?_)
  · obtain ⟨_, _, _, _, rfl, _⟩ := h
    rfl
  · obtain ⟨ca, found, n, many, rfl, hS, h1, h4, hmn, hn, hl, q⟩ := h
    refine ⟨_, (pss_one (ps_ret (pe_op op_mul (pe_op op_mul (pe_call (G_choose T) (hr.mono (by decide)) rfl T.m_choose T.f_choose.kp (B_choose T) .nil pass0 (pa_cons (pe_op op_sub (pv 1) pe_int) (pa_cons (pe_op op_sub (pv 2) pe_int) pa_nil))) (pe_ix ix_tup (pe_glob (v := V.ref a.aF) rfl T.mFORM rfl) (pv 2) (fun _ _ => rfl))) (pe_ix ix_list (pv 0) (pe_op op_sub (pv 1) (pv 2)) (fun _ _ => rfl))))), ?_⟩
    have hc := ch_small (m := n - 1) (k := many - 1) (by omega) (by omega)
    have hF := F_le h1 h4
    refine ⟨_, rfl, _, _, rfl, rfl, _, rfl, _, _, rfl, rfl, n - 1, many - 1, two_eq (by omega) (by omega), by omega, by omega, ?_⟩
    refine ⟨_, rfl, _, _, _, _, rfl, rfl, T.form _, F_at h1 h4, _, _, rfl, rfl, small_mul rfl (by omega), ?_⟩
    have e : ((ch (n - 1) (many - 1) : Nat) : Int) * ((F many : Nat) : Int) = ((ch (n - 1) (many - 1) * F many : Nat) : Int) := (Int.natCast_mul _ _).symm
    have hb : ch (n - 1) (many - 1) * F many ≤ 41665 * 42 := Nat.mul_le_mul (by omega) hF
    refine ⟨_, rfl, _, rfl, _, rfl, _, _, rfl, rfl, _, _, _, _, rfl, rfl, hS, (by rw [show ((n : Int) - (many : Int)) = ((n - many : Nat) : Int) by omega]; exact vL_at hl), _, _, rfl, rfl, small_mul e (by omega), ?_⟩
    show Q (V.int (((ch (n - 1) (many - 1) : Nat) : Int) * ((F many : Nat) : Int) * ((found.getD (n - many) 0 : Nat) : Int))) H
    rw [e, ← Int.natCast_mul]
    exact q
abbrev s_totals : Stmt := topS 22
abbrev N_totals : List Str := ["size", "found", "n", "many"]
theorem sc_totals : FnScope N_totals ["size"] (defScope s_totals) := ⟨rfl, rfl, rfl, by decide +kernel, rfl, by decide +kernel, by decide +kernel⟩
theorem sum_cast : ∀ l : List Nat, (l.map fun n : Nat => (n : Int)).sum = ((l.sum : Nat) : Int)
  | [] => rfl
  | x :: l => by rw [List.map_cons, List.sum_cons, List.sum_cons, sum_cast l, Int.natCast_add]
theorem same_new {H : Hp} {p : Addr} {o : HO} (h : H p = none) : Same H (upd H p o) := fun b u e => by rw [upd_ne (ne_of_none e h)]; exact e
theorem same_mut {H H' : Hp} {p : Addr} {o : HO} (s : Same H H') (h : H p = none) : Same H (upd H' p o) := fun b u e => by rw [upd_ne (ne_of_none e h)]; exact s b u e
def spTotals : Sp := fun vs H Q _ => ∃ n : Nat, vs = [vN n] ∧ n ≤ 64 ∧ ∀ H' p, H p = none → Same H H' → H' p = some (.lst (vL (tot n))) → Q (.ref p) H'
theorem B_totals (T : Txt K mg a) : Binds K (a.fd 22) ["size"] [] := T.f_totals.binds fun _ _ _ _ _ _ us hl => match us, hl with | [_], _ => rfl
theorem G_totals (T : Txt K mg a) : FnOk P w K mg base CX0 3 (a.f 22) (a.fd 22) ["size"] spTotals := by
  refine T.f_totals.ok sc_totals (fun vs H Q E h => ?_) (fun cdv A outer s H vs Q E hr h => ?_)
  · obtain ⟨_, rfl, _⟩ := h
    rfl
  · obtain ⟨n, rfl, hn, q⟩ := h
    refine ⟨_, (pss_cons (ps_set (i := 1) sc_totals.nd rfl (Or.inr rfl) (pe_lst (pa_cons pe_int pa_nil)))
      (pss_cons (ps_for PassesOwn.never rfl (pi_range2 (by rfl) T.n_range (pa_cons pe_int (pa_cons (pe_op op_add (pv 0) pe_int) pa_nil))) (pg_name (i := 2) sc_totals.nd rfl (Or.inr rfl))
        (pss_one (ps_expr (pe_bm PySem.F.plainAttrs_list PySem.F.slot_list_append PySem.F.type_list_append mt_append (pv 1) (pa_cons (pe_callB (cr_sum rfl) (by rfl) T.n_sum (by decide +kernel) (pa_cons (pe_lc (own := [("many", 3)]) (g := gName 3) rfl sc_totals.nd (pi_range2 (by rfl) T.n_range (pa_cons pe_int (pa_cons (pe_op op_add (pe_callB (call_min2 rfl) (by rfl) T.n_min (by decide +kernel) (pa_cons (pv 2) (pa_cons (pe_glob (v := V.int 4) rfl T.mLARGEST ⟨_, rfl⟩) pa_nil))) pe_int) pa_nil))) (blkOk_by (own := [("many", 3)]) (N := N_totals) (sc := defScope s_totals) (by decide +kernel)) (fun _ _ _ _ _ => pg_name (i := 3) sc_totals.nd rfl (Or.inl rfl)) (fun _ _ _ _ _ => pts_nil) (fun _ _ _ _ _ => (pe_call (G_block T) (hr.mono (by decide)) rfl T.m_block T.f_block.kp (B_block T) .nil pass0 (pa_cons (pv 1) (pa_cons (pv 2) (pa_cons (pv 3) pa_nil)))))) pa_nil)) pa_nil)))))
      (pss_one (ps_ret (pv 1))))), ?_⟩
    refine ⟨by decide, fun p hp => ?_⟩
    refine ⟨_, rfl, _, _, rfl, rfl, _, _, rfl, ⟨by decide, by decide, by omega, by omega⟩, for_range (fun i σ H' => ∃ x y, σ = [some (vN n), some (.ref p), x, y] ∧ Same H H' ∧ H' p = some (.lst (vL (tot i)))) ⟨_, _, rfl, same_new hp, upd_same⟩ ?_ ?_⟩
    · rintro i σ H2 hi ⟨x, y, rfl, s2, h2⟩
      have hi : i < n := by omega
      refine ⟨_, rfl, .inl ⟨rfl, _, SqL.of h2⟩, ?_⟩
      have em : ((if (4 : Int) < (1 + (i : Int)) then (4 : Int) else (1 + (i : Int))) + 1 - 1).toNat = min (i + 1) 4 := by
        split <;> omega
      refine ⟨_, rfl, _, _, rfl, _, _, rfl, rfl, _, _, rfl, ⟨by decide, by decide, ?_, ?_⟩, fun D hD => lc_range (lo := 1) (fun k H' => Same H2 H' ∧ H' D = some (.lst ((List.range k).map fun j => vN (blkL (tot i) (i + 1) (j + 1))))) ⟨same_new hD, upd_same⟩ ?_ ?_⟩
      · split <;> omega
      · split <;> omega
      · rintro k H3 hk ⟨s3, h3⟩
        rw [em] at hk
        refine ⟨rfl, _, rfl, _, rfl, _, rfl, p, tot i, i + 1, k + 1, ?_, s3.seq (SqL.of h2), by omega, by omega, by omega, by omega, by rw [tot_len]; omega, _, h3, ?_, ?_⟩
        · show [V.ref p, V.int (1 + (i : Int)), V.int (1 + (k : Int))] = _
          rw [show (1 + (i : Int)) = ((i + 1 : Nat) : Int) by omega, show (1 + (k : Int)) = ((k + 1 : Nat) : Int) by omega]
        · rw [List.length_map, List.length_range]
          exact sz64' (by omega)
        · refine ⟨same_mut s3 hD, ?_⟩
          rw [upd_same, List.range_succ, List.map_append]
          rfl
      · rintro H3 ⟨s3, h3⟩
        rw [em] at h3
        have e : ((List.range (min (i + 1) 4)).map fun j => vN (blkL (tot i) (i + 1) (j + 1))) = (((List.range (min (i + 1) 4)).map fun j => blkL (tot i) (i + 1) (j + 1)).map fun n : Nat => (n : Int)).map V.int := by
          rw [List.map_map, List.map_map]
          rfl
        rw [e] at h3
        refine ⟨D, _, rfl, SqL.of h3, ?_⟩
        have h2' : H3 p = some (.lst (vL (tot i))) := s3 _ _ h2
        refine ⟨p, _, _, rfl, rfl, h2', ?_, ?_⟩
        · rw [List.length_map, tot_len]
          exact sz64' (by omega)
        · refine ⟨_, _, rfl, same_mut (s2.trans s3) hp, ?_⟩
          rw [upd_same, sum_cast]
          show some (HO.lst (vL (tot i) ++ [vN (sumBlk (tot i) (i + 1))])) = some (HO.lst (vL (tot i ++ [sumBlk (tot i) (i + 1)])))
          rw [vL, vL, List.map_append]
          rfl
    · rintro σ H2 ⟨x, y, rfl, s2, h2⟩
      have e : (((n : Int) + 1) - 1).toNat = n := by omega
      rw [e] at h2
      exact ⟨_, rfl, q H2 p hp s2 h2⟩
end
end K4
end
section
namespace K4
open PySem L2
section
variable {P : Program} {w : World} {K : PySem.W.Frag} {mg : Str → Option Value} {base : Heap} {a : Ad}
abbrev s_set_number : Stmt := topS 26
abbrev N_set_number : List Str := ["places", "n", "number", "at", "place"]
theorem sc_set_number : FnScope N_set_number ["places", "n"] (defScope s_set_number) := ⟨rfl, rfl, rfl, by decide +kernel, rfl, by decide +kernel, by decide +kernel⟩
def spSetNum (K : PySem.W.Frag) : Sp := fun vs H Q _ => ∃ (pa : Addr) (ps : List Nat) (n : Nat), vs = [.ref pa, vN n] ∧ SqL K H pa (vL ps) ∧ 1 ≤ ps.length ∧ ps.length ≤ 4 ∧ ps.Pairwise (· < ·) ∧ (∀ x ∈ ps, x < n) ∧ n ≤ 64 ∧ Q (vN (setN n (ps.getD 0 0 + 1) ps.tail)) H
theorem B_set_number (T : Txt K mg a) : Binds K (a.fd 26) ["places", "n"] [] := T.f_set_number.binds fun _ _ _ _ _ _ us hl => match us, hl with | [_, _], _ => rfl
theorem G_set_number (T : Txt K mg a) : FnOk P w K mg base CX0 2 (a.f 26) (a.fd 26) ["places", "n"] (spSetNum K) := by
  refine T.f_set_number.ok sc_set_number (fun vs H Q E h => ?_) (fun cdv A outer s H vs Q E hr h => ?_)
  · obtain ⟨_, _, _, rfl, _⟩ := h
    rfl
  · obtain ⟨pa, ps, n, rfl, hS, l1, l4, hp, hlt, hn, q⟩ := h
    refine ⟨_, (pss_cons (ps_set (i := 2) sc_set_number.nd rfl (Or.inl rfl) pe_int)
      (pss_cons (ps_for PassesOwn.never rfl (pi_range2 (by rfl) T.n_range (pa_cons pe_int (pa_cons (pe_callB call_len_seq (by rfl) T.n_len (by decide +kernel) (pa_cons (pv 0) pa_nil)) pa_nil))) (pg_name (i := 3) sc_set_number.nd rfl (Or.inl rfl))
        (pss_one (ps_for PassesOwn.never rfl (pi_range2 (by rfl) T.n_range (pa_cons (pe_op op_add (pe_ix ix_list (pv 0) (pe_op op_sub (pv 3) pe_int) (fun _ _ => rfl)) pe_int) (pa_cons (pe_ix ix_list (pv 0) (pv 3) (fun _ _ => rfl)) pa_nil))) (pg_name (i := 4) sc_set_number.nd rfl (Or.inl rfl))
          (pss_one (ps_set (i := 2) sc_set_number.nd rfl (Or.inl rfl) (pe_op op_add (pv 2) (pe_call (G_choose T) (hr.mono (by decide)) rfl T.m_choose T.f_choose.kp (B_choose T) .nil pass0 (pa_cons (pe_op op_sub (pe_op op_sub (pv 1) pe_int) (pv 4)) (pa_cons (pe_op op_sub (pe_op op_sub (pe_callB call_len_seq (by rfl) T.n_len (by decide +kernel) (pa_cons (pv 0) pa_nil)) pe_int) (pv 3)) pa_nil)))))))))
      (pss_one (ps_ret (pv 2))))), ?_⟩
    refine ⟨_, rfl, _, _, rfl, .inl hS, _, _, rfl, ⟨by decide, by decide, by rw [List.length_map]; omega, by rw [List.length_map]; omega⟩, for_range (fun i σ H' => H' = H ∧ ∃ c x y, σ = [some (.ref pa), some (vN n), some (vN c), x, y] ∧ c + setN n (ps.getD i 0 + 1) (ps.drop (i + 1)) = setN n (ps.getD 0 0 + 1) ps.tail) ⟨rfl, 0, none, none, rfl, by rw [Nat.zero_add, List.drop_one]⟩ ?_ ?_⟩
    · rintro i σ H2 hi ⟨rfl, c, x, y, rfl, hc⟩
      rw [List.length_map] at hi
      have hi : i + 1 < ps.length := by omega
      have hd := drop_cons hi
      have m0 : ps.getD i 0 ∈ ps := getD_mem (by omega)
      have m1 : ps.getD (i + 1) 0 ∈ ps := getD_mem hi
      have lo := hlt _ m1
      have asc : ps.getD i 0 < ps.getD (i + 1) 0 := by
        have := List.pairwise_iff_getElem.mp hp i (i + 1) (by omega) hi (by omega)
        simpa [List.getD_eq_getElem?_getD, hi, (show i < ps.length by omega)] using this
      have ln : (ps.drop (i + 1 + 1)).length = ps.length - 1 - (i + 1) := by rw [List.length_drop]; omega
      have e1 : (1 + (i : Int)) - 1 = ((i : Nat) : Int) := by omega
      have e2 : (1 + (i : Int)) = ((i + 1 : Nat) : Int) := by omega
      refine ⟨_, rfl, _, rfl, _, _, rfl, rfl, pa, _, _, _, rfl, rfl, hS, (by rw [e1]; exact vL_at (by omega)), _, _, rfl, rfl, _, rfl, _, rfl, pa, _, _, _, rfl, rfl, hS, (by rw [e2]; exact vL_at hi), _, _, rfl, ⟨by omega, by omega, by omega, by omega⟩,
        for_range (fun k σ H' => H' = H2 ∧ ∃ c y, σ = [some (.ref pa), some (vN n), some (vN c), some (.int (1 + (i : Int))), y] ∧ c + (sumCh n (ps.drop (i + 1 + 1)).length (ps.getD i 0 + 1 + k) (ps.getD (i + 1) 0 - (ps.getD i 0 + 1 + k)) + setN n (ps.getD (i + 1) 0 + 1) (ps.drop (i + 1 + 1))) = setN n (ps.getD 0 0 + 1) ps.tail) ⟨rfl, c, y, rfl, ?_⟩ ?_ ?_⟩
      · rw [hd] at hc
        exact hc
      · rintro k σ H3 hk ⟨rfl, c, y, rfl, hc⟩
        have hk : ps.getD i 0 + 1 + k < ps.getD (i + 1) 0 := by omega
        refine ⟨_, rfl, _, rfl, _, _, rfl, rfl, _, rfl, _, _, rfl, rfl, _, rfl, _, _, rfl, .inl hS, _, _, rfl, rfl, _, rfl, _, _, rfl, rfl, n - 1 - (ps.getD i 0 + 1 + k), ps.length - 1 - (i + 1), two_eq (by omega) (by rw [List.length_map]; omega), by omega, by omega, _, _, rfl, rfl, rfl, c + ch (n - 1 - (ps.getD i 0 + 1 + k)) (ps.length - 1 - (i + 1)), some (.int (((ps.getD i 0 : Nat) : Int) + 1 + (k : Int))), ?_, ?_⟩
        · show [some (V.ref pa), some (vN n), some (V.int ((c : Int) + ((ch (n - 1 - (ps.getD i 0 + 1 + k)) (ps.length - 1 - (i + 1)) : Nat) : Int))), _, _] = _
          rw [← Int.natCast_add]
        · rw [show ps.getD (i + 1) 0 - (ps.getD i 0 + 1 + k) = (ps.getD (i + 1) 0 - (ps.getD i 0 + 1 + (k + 1))) + 1 by omega] at hc
          have hc : c + (ch (n - 1 - (ps.getD i 0 + 1 + k)) (ps.drop (i + 1 + 1)).length + sumCh n (ps.drop (i + 1 + 1)).length (ps.getD i 0 + 1 + k + 1) (ps.getD (i + 1) 0 - (ps.getD i 0 + 1 + (k + 1))) + setN n (ps.getD (i + 1) 0 + 1) (ps.drop (i + 1 + 1))) = setN n (ps.getD 0 0 + 1) ps.tail := hc
          rw [← ln, show ps.getD i 0 + 1 + (k + 1) = ps.getD i 0 + 1 + k + 1 by omega]
          rw [show ps.getD i 0 + 1 + (k + 1) = ps.getD i 0 + 1 + k + 1 by omega] at hc
          omega
      · rintro σ H3 ⟨rfl, c, y, rfl, hc⟩
        refine ⟨rfl, c, _, y, rfl, ?_⟩
        rw [show ps.getD (i + 1) 0 - (ps.getD i 0 + 1 + (((ps.getD (i + 1) 0 : Nat) : Int) - (((ps.getD i 0 : Nat) : Int) + 1)).toNat) = 0 by omega] at hc
        have hc : c + (0 + setN n (ps.getD (i + 1) 0 + 1) (ps.drop (i + 1 + 1))) = setN n (ps.getD 0 0 + 1) ps.tail := hc
        rw [Nat.zero_add] at hc
        exact hc
    · rintro σ H2 ⟨rfl, c, x, y, rfl, hc⟩
      rw [List.length_map] at hc
      have e : ((ps.length : Int) - 1).toNat + 1 = ps.length := by omega
      rw [e, List.drop_length] at hc
      have hc : c + 0 = _ := hc
      rw [← hc] at q
      exact ⟨_, rfl, q⟩
end
end K4
end
section
namespace K4
open PySem L2
section
variable {P : Program} {w : World} {K : PySem.W.Frag} {mg : Str → Option Value} {base : Heap} {a : Ad}
abbrev s_set_at : Stmt := topS 27
abbrev N_set_at : List Str := ["number", "n", "many", "places", "at", "place"]
theorem sc_set_at : FnScope N_set_at ["number", "n", "many"] (defScope s_set_at) := ⟨rfl, rfl, rfl, by decide +kernel, rfl, by decide +kernel, by decide +kernel⟩
theorem at_last {l : List Nat} {x : Nat} : atI (vL (l ++ [x])) (-1) = some (vN x) := by
  rw [vL, List.map_append]
  exact atI_last _ _
def spSetAt : Sp := fun vs H Q _ => ∃ num n many : Nat, vs = [vN num, vN n, vN many] ∧ 1 ≤ many ∧ many ≤ 4 ∧ many ≤ n ∧ n ≤ 64 ∧ num < ch (n - 1) (many - 1) ∧
  ∀ H' p, H p = none → Same H H' → H' p = some (.lst (vL (0 :: subL (List.range' 1 (n - 1)) (many - 1) num))) → Q (.ref p) H'
theorem B_set_at (T : Txt K mg a) : Binds K (a.fd 27) ["number", "n", "many"] [] := T.f_set_at.binds fun _ _ _ _ _ _ us hl => match us, hl with | [_, _, _], _ => rfl
theorem G_set_at (T : Txt K mg a) : FnOk P w K mg base CX0 2 (a.f 27) (a.fd 27) ["number", "n", "many"] spSetAt := by
  refine T.f_set_at.ok sc_set_at (fun vs H Q E h => ?_) (fun cdv A outer s H vs Q E hr h => ?_)
  · obtain ⟨_, _, _, rfl, _⟩ := h
    rfl
  · obtain ⟨num, n, many, rfl, l1, l4, hmn, hn, hlt, q⟩ := h
    refine ⟨_, (pss_cons (ps_set (i := 3) sc_set_at.nd rfl (Or.inl rfl) (pe_lst (pa_cons pe_int pa_nil)))
      (pss_cons (ps_for PassesOwn.never rfl (pi_range2 (by rfl) T.n_range (pa_cons pe_int (pa_cons (pv 2) pa_nil))) (pg_name (i := 4) sc_set_at.nd rfl (Or.inl rfl))
        (pss_cons (ps_set (i := 5) sc_set_at.nd rfl (Or.inl rfl) (pe_op op_add (pe_ix ix_list (pv 3) (pe_un un_neg pe_int) (fun _ _ => rfl)) pe_int))
        (pss_cons (ps_while PassesOwn.never (pt_cmpR op_ge (pv 0) (pe_call (G_choose T) (hr.mono (by decide)) rfl T.m_choose T.f_choose.kp (B_choose T) .nil pass0 (pa_cons (pe_op op_sub (pe_op op_sub (pv 1) pe_int) (pv 5)) (pa_cons (pe_op op_sub (pe_op op_sub (pv 2) pe_int) (pv 4)) pa_nil))) (nomark _))
          (pss_cons (ps_set (i := 0) sc_set_at.nd rfl (Or.inl rfl) (pe_op op_sub (pv 0) (pe_call (G_choose T) (hr.mono (by decide)) rfl T.m_choose T.f_choose.kp (B_choose T) .nil pass0 (pa_cons (pe_op op_sub (pe_op op_sub (pv 1) pe_int) (pv 5)) (pa_cons (pe_op op_sub (pe_op op_sub (pv 2) pe_int) (pv 4)) pa_nil)))))
          (pss_one (ps_set (i := 5) sc_set_at.nd rfl (Or.inl rfl) (pe_op op_add (pv 5) pe_int)))))
        (pss_one (ps_expr (pe_bm PySem.F.plainAttrs_list PySem.F.slot_list_append PySem.F.type_list_append mt_append (pv 3) (pa_cons (pv 5) pa_nil)))))))
      (pss_one (ps_ret (pv 3))))), ?_⟩
    generalize hfin : 0 :: subL (List.range' 1 (n - 1)) (many - 1) num = fin at q
    refine ⟨by decide, fun p hp => ?_⟩
    refine ⟨_, rfl, _, _, rfl, ⟨by decide, by decide, by omega, by omega⟩, for_range (fun i σ H' => Same H H' ∧ ∃ (l : List Nat) (y nu : Nat) (x z : Option V), σ = [some (vN nu), some (vN n), some (vN many), some (.ref p), x, z] ∧ H' p = some (.lst (vL (l ++ [y]))) ∧ l.length = i ∧
      (l ++ [y]) ++ subL (List.range' (y + 1) (n - (y + 1))) (many - 1 - i) nu = fin ∧ nu < ch (n - (y + 1)) (many - 1 - i)) ⟨same_new hp, [], 0, num, none, none, rfl, upd_same, rfl, hfin, hlt⟩ ?_ ?_⟩
    · rintro i σ H2 hi ⟨s2, l, y, nu, x, z, rfl, h2, hl, hf, hc⟩
      have hi : i + 1 < many := by omega
      obtain ⟨r, hr'⟩ : ∃ r, many - 1 - i = r + 1 := ⟨many - 1 - i - 1, by omega⟩
      rw [hr'] at hf hc
      refine ⟨_, rfl, _, rfl, p, _, _, _, rfl, rfl, SqL.of h2, at_last, _, _, rfl, rfl, ?_⟩
      refine ⟨fun m σ H' => H' = H2 ∧ ∃ (place nu : Nat), m = n - place ∧ σ = [some (vN nu), some (vN n), some (vN many), some (.ref p), some (.int (1 + (i : Int))), some (vN place)] ∧
        (l ++ [y]) ++ subL (List.range' place (n - place)) (r + 1) nu = fin ∧ nu < ch (n - place) (r + 1), ⟨_, rfl, y + 1, nu, rfl, ?_, hf, hc⟩, ?_⟩
      · show [some (vN nu), some (vN n), some (vN many), some (.ref p), some (.int (1 + (i : Int))), some (V.int (((y : Nat) : Int) + 1))] = _
        rw [show (((y : Nat) : Int) + 1) = ((y + 1 : Nat) : Int) by omega]
      · rintro m σ H3 ⟨rfl, place, nu, rfl, rfl, hf, hc⟩
        have hp1 : place < n := by
          rcases Nat.lt_or_ge place n with c | c
          · exact c
          · rw [show n - place = 0 by omega] at hc
            simp [ch] at hc
        refine ⟨_, rfl, _, rfl, _, _, rfl, rfl, _, rfl, _, _, rfl, rfl, _, rfl, _, _, rfl, rfl, _, rfl, _, _, rfl, rfl, n - 1 - place, r, two_eq (by omega) (by omega), by omega, by omega, _, _, rfl, rfl, _, rfl, ite2 (fun c => ?_) (fun c => ?_)⟩
        · have c : ch (n - 1 - place) r ≤ nu := by
            have := of_decide_eq_true c
            omega
          obtain ⟨_, e1, e2⟩ := at_more hc c
          refine ⟨_, fun _ _ h => h, _, rfl, _, rfl, _, _, rfl, rfl, _, rfl, _, _, rfl, rfl, _, rfl, _, _, rfl, rfl, _, rfl, _, _, rfl, rfl, n - 1 - place, r, two_eq (by omega) (by omega), by omega, by omega, _, _, rfl, rfl, _, rfl, _, _, rfl, rfl,
            n - (place + 1), by omega, rfl, place + 1, nu - ch (n - 1 - place) r, rfl, ?_, by rw [← e1]; exact hf, e2⟩
          show [some (V.int ((nu : Int) - ((ch (n - 1 - place) r : Nat) : Int))), some (vN n), some (vN many), some (.ref p), some (.int (1 + (i : Int))), some (V.int (((place : Nat) : Int) + 1))] = _
          rw [show (((place : Nat) : Int) + 1) = ((place + 1 : Nat) : Int) by omega, show ((nu : Int) - ((ch (n - 1 - place) r : Nat) : Int)) = ((nu - ch (n - 1 - place) r : Nat) : Int) by omega]
        · have c : nu < ch (n - 1 - place) r := by
            have : ¬ (((ch (n - 1 - place) r : Nat) : Int) ≤ (nu : Int)) := fun z => c (decide_eq_true z)
            omega
          obtain ⟨_, e1⟩ := at_stop hc c
          refine ⟨_, rfl, .inl ⟨rfl, _, SqL.of h2⟩, _, rfl, p, _, _, rfl, rfl, h2, by simp; exact sz64' (by omega), same_mut s2 hp, l ++ [y], place, nu, _, _, rfl, ?_, by simp [hl], ?_, ?_⟩
          · rw [upd_same]
            simp [vL]
          · rw [e1] at hf
            rw [show many - 1 - (i + 1) = r by omega]
            simpa using hf
          · rw [show many - 1 - (i + 1) = r by omega, show n - (place + 1) = n - 1 - place by omega]
            exact c
    · rintro σ H2 ⟨s2, l, y, nu, x, z, rfl, h2, hl, hf, hc⟩
      rw [show many - 1 - ((many : Int) - 1).toNat = 0 by omega, subL_zero, List.append_nil] at hf
      refine ⟨_, rfl, q H2 p hp s2 ?_⟩
      rw [h2, hf]
end
end K4
end
section
namespace K4
open PySem L2
/-- the law's bag -/
structure Bag3 (g f s : Int) : Prop where
  g0 : 0 ≤ g
  f0 : 0 ≤ f
  f1 : f < 2147483648
  s0 : 0 ≤ s
  s1 : s < 2147483648
def BagAt (H : Hp) (b : Addr) : Prop := ∃ g f s : Int, H b = some (.lst [.int g, .int f, .int s]) ∧ Bag3 g f s
/-- all but the bag stands -/
def But (b : Addr) (H H' : Hp) : Prop := ∀ c o, c ≠ b → H c = some o → H' c = some o
theorem But.refl (b : Addr) (H : Hp) : But b H H := fun _ _ _ h => h
theorem But.trans {b : Addr} {H H1 H2 : Hp} (x : But b H H1) (y : But b H1 H2) : But b H H2 := fun c o n h => y c o n (x c o n h)
theorem But.free {b : Addr} {H H1 : Hp} (x : But b H H1) {p : Addr} (hb : p ≠ b) (h : H1 p = none) : H p = none := by
  cases q : H p with
  | none => rfl
  | some o => rw [x p o hb q] at h; cases h
section
variable {P : Program} {w : World} {K : PySem.W.Frag} {mg : Str → Option Value} {base : Heap} {a : Ad}
abbrev s_law_bag : Stmt := topS 31
abbrev N_law_bag : List Str := ["_law_script", "_law_great", "_law_first", "_law_second", "_law_cell"]
theorem sc_law_bag : FnScope N_law_bag ["_law_script"] (defScope s_law_bag) := ⟨rfl, rfl, rfl, by decide +kernel, rfl, by decide +kernel, by decide +kernel⟩
def spLawBag (K : PySem.W.Frag) : Sp := fun vs H Q _ => ∃ (sa : Addr) (ns : List Int), vs = [.ref sa] ∧ SqL K H sa (ns.map V.int) ∧ ∀ H' p, H p = none → Same H H' → BagAt H' p → Q (.ref p) H'
theorem B_law_bag (T : Txt K mg a) : Binds K (a.fd 31) ["_law_script"] [] := T.f_law_bag.binds fun _ _ _ _ _ _ us hl => match us, hl with | [_], _ => rfl
theorem G_law_bag (T : Txt K mg a) : FnOk P w K mg base CX0 2 (a.f 31) (a.fd 31) ["_law_script"] (spLawBag K) := by
  refine T.f_law_bag.ok sc_law_bag (fun vs H Q E h => ?_) (fun cdv A outer s H vs Q E hr h => ?_)
  · obtain ⟨_, _, rfl, _⟩ := h
    rfl
  · obtain ⟨sa, ns, rfl, hS, q⟩ := h
    refine ⟨_, (pss_cons (ps_set (i := 1) sc_law_bag.nd rfl (Or.inl rfl) pe_int)
      (pss_cons (ps_set (i := 2) sc_law_bag.nd rfl (Or.inl rfl) pe_int)
      (pss_cons (ps_set (i := 3) sc_law_bag.nd rfl (Or.inl rfl) pe_int)
      (pss_cons (ps_for PassesOwn.never rfl (pi_list (pv 0)) (pg_name (i := 4) sc_law_bag.nd rfl (Or.inl rfl))
        (pss_cons (ps_if (PW.pt (pw_and (pt_cmpR op_eq (pv 1) pe_int (nomark _)) (pw_and1 (pt_cmpR op_ge (pv 4) (pe_op op_pow pe_int pe_int) (nomark _)))))
          (pss_one (ps_set (i := 1) sc_law_bag.nd rfl (Or.inl rfl) (pv 4)))
          pss_nil)
        (pss_cons (ps_set (i := 2) sc_law_bag.nd rfl (Or.inl rfl) (pe_op op_mod (pe_callTy call_int1 (by rfl) T.n_int (by decide +kernel) (pa_cons (pe_op op_add (pe_op op_add (pe_op op_mul (pv 2) pe_int) (pe_op op_mod (pe_callTy call_int1 (by rfl) T.n_int (by decide +kernel) (pa_cons (pv 4) pa_nil)) pe_int)) pe_int) pa_nil)) pe_int))
        (pss_one (ps_set (i := 3) sc_law_bag.nd rfl (Or.inl rfl) (pe_op op_mod (pe_callTy call_int1 (by rfl) T.n_int (by decide +kernel) (pa_cons (pe_op op_add (pe_op op_add (pe_op op_mul (pv 3) pe_int) (pe_op op_mod (pe_callTy call_int1 (by rfl) T.n_int (by decide +kernel) (pa_cons (pv 4) pa_nil)) pe_int)) pe_int) pa_nil)) pe_int))))))
      (pss_one (ps_ret (pe_lst (pa_cons (pv 1) (pa_cons (pv 2) (pa_cons (pv 3) pa_nil)))))))))), ?_⟩
    refine ⟨_, rfl, sa, rfl, ⟨_, hS⟩, for_list (K := K) (xs := ns.map V.int) (fun i σ H' => H' = H ∧ ∃ (g f s : Int) (x : Option V), σ = [some (.ref sa), some (.int g), some (.int f), some (.int s), x] ∧ Bag3 g f s) ⟨rfl, 0, 7, 97, none, rfl, by decide, by decide, by decide, by decide, by decide⟩ (fun i σ H' _ ⟨e, _⟩ => by rw [e]; exact hS) ?_ ?_⟩
    · rintro i y σ H2 hi ⟨rfl, g, f, s, x, rfl, hb⟩
      obtain ⟨z, rfl⟩ : ∃ z, y = V.int z := by
        rw [List.getElem?_map] at hi
        cases e : ns[i]? with
        | none => rw [e] at hi; cases hi
        | some z => rw [e] at hi; exact ⟨z, (Option.some.inj hi).symm⟩
      have g0 := hb.g0
      have f0 := hb.f0
      have f1 := hb.f1
      have s0 := hb.s0
      have s1 := hb.s1
      refine ⟨_, rfl, rfl, _, rfl, ite2 (fun c1 => ⟨_, rfl, _, _, rfl, rfl, ⟨by decide, by decide, by decide⟩, _, _, rfl, rfl, _, rfl, ite2 (fun c2 => ⟨_, rfl, ?_⟩) (fun c2 => ?_)⟩) (fun c1 => ?_)⟩
      all_goals
        refine ⟨_, rfl, _, _, rfl, rfl, .inr ⟨by decide, by decide⟩, _, rfl, .inl ⟨_, rfl, _, _, rfl, rfl, (by dsimp only; omega), _, _, rfl, rfl, _, _, rfl, rfl, .inl ⟨_, rfl, _, _, rfl, rfl, (by dsimp only; omega), ?_⟩⟩⟩
        refine ⟨_, rfl, _, _, rfl, rfl, .inr ⟨by decide, by decide⟩, _, rfl, .inl ⟨_, rfl, _, _, rfl, rfl, (by dsimp only; omega), _, _, rfl, rfl, _, _, rfl, rfl, .inl ⟨_, rfl, _, _, rfl, rfl, (by dsimp only; omega), ?_⟩⟩⟩
        refine ⟨rfl, _, _, _, _, rfl, ?_⟩
      · have c2' : (10 : Int) ^ (18 : Int).toNat ≤ z := of_decide_eq_true c2
        have : (0 : Int) ≤ (10 : Int) ^ (18 : Int).toNat := by decide
        exact ⟨by omega, by omega, by omega, by omega, by omega⟩
      · exact ⟨by omega, by omega, by omega, by omega, by omega⟩
      · exact ⟨by omega, by omega, by omega, by omega, by omega⟩
    · rintro σ H2 ⟨rfl, g, f, s, x, rfl, hb⟩
      refine ⟨_, rfl, _, rfl, _, rfl, (by show 3 ≤ sizeLine; decide), fun p hp => q _ p hp (same_new hp) ⟨g, f, s, upd_same, hb⟩⟩
abbrev s_law_take : Stmt := topS 32
abbrev N_law_take : List Str := ["_law_bag_here", "_law_size_here", "_law_digit"]
theorem sc_law_take : FnScope N_law_take ["_law_bag_here", "_law_size_here"] (defScope s_law_take) := ⟨rfl, rfl, rfl, by decide +kernel, rfl, by decide +kernel, by decide +kernel⟩
def spTake : Sp := fun vs H Q _ => ∃ (b : Addr) (n : Nat), vs = [.ref b, vN n] ∧ BagAt H b ∧ 0 < n ∧ n ≤ 1000000000000 ∧ ∀ d H', d < n → But b H H' → BagAt H' b → Q (vN d) H'
theorem B_law_take (T : Txt K mg a) : Binds K (a.fd 32) ["_law_bag_here", "_law_size_here"] [] := T.f_law_take.binds fun _ _ _ _ _ _ us hl => match us, hl with | [_, _], _ => rfl
theorem mod_nat {x : Int} {n : Nat} (hn : 0 < n) : ∃ d : Nat, d < n ∧ x % (n : Int) = (d : Int) := by
  have h1 := Int.emod_nonneg x (show (n : Int) ≠ 0 by omega)
  have h2 := Int.emod_lt_of_pos x (show (0 : Int) < (n : Int) by omega)
  exact ⟨(x % (n : Int)).toNat, by omega, by omega⟩
theorem G_law_take (T : Txt K mg a) : FnOk P w K mg base CX0 2 (a.f 32) (a.fd 32) ["_law_bag_here", "_law_size_here"] spTake := by
  refine T.f_law_take.ok sc_law_take (fun vs H Q E h => ?_) (fun cdv A outer s H vs Q E hr h => ?_)
  · obtain ⟨_, _, rfl, _⟩ := h
    rfl
  · obtain ⟨b, n, rfl, ⟨g, f, s, hB, hb⟩, hn, hn2, q⟩ := h
    have g0 := hb.g0
    have f0 := hb.f0
    have f1 := hb.f1
    have s0 := hb.s0
    have s1 := hb.s1
    have hn3 : (0 : Int) < (n : Int) := by omega
    refine ⟨_, (pss_cons (ps_if (pt_cmpR op_gt (pe_ix ix_list (pv 0) pe_int (fun _ _ => rfl)) pe_int (nomark _))
        (pss_cons (ps_set (i := 2) sc_law_take.nd rfl (Or.inl rfl) (pe_op op_mod (pe_callTy call_int1 (by rfl) T.n_int (by decide +kernel) (pa_cons (pe_ix ix_list (pv 0) pe_int (fun _ _ => rfl)) pa_nil)) (pv 1)))
        (pss_cons (ps_asg (pe_op op_fdivW (pe_ix ix_list (pv 0) pe_int (fun _ _ => rfl)) (pv 1)) (pg_sub (pv 0) pe_int set_list))
        (pss_one (ps_ret (pv 2)))))
        pss_nil)
      (pss_cons (ps_asg (pe_op op_mod (pe_callTy call_int1 (by rfl) T.n_int (by decide +kernel) (pa_cons (pe_op op_add (pe_op op_mul (pe_ix ix_list (pv 0) pe_int (fun _ _ => rfl)) pe_int) pe_int) pa_nil)) pe_int) (pg_sub (pv 0) pe_int set_list))
      (pss_cons (ps_asg (pe_op op_mod (pe_callTy call_int1 (by rfl) T.n_int (by decide +kernel) (pa_cons (pe_op op_add (pe_op op_mul (pe_ix ix_list (pv 0) pe_int (fun _ _ => rfl)) pe_int) (pe_ix ix_list (pv 0) pe_int (fun _ _ => rfl))) pa_nil)) pe_int) (pg_sub (pv 0) pe_int set_list))
      (pss_one (ps_ret (pe_op op_mod (pe_callTy call_int1 (by rfl) T.n_int (by decide +kernel) (pa_cons (pe_op op_fdiv (pe_ix ix_list (pv 0) pe_int (fun _ _ => rfl)) pe_int) pa_nil)) (pv 1))))))), ?_⟩
    refine ⟨_, rfl, b, _, _, _, rfl, rfl, SqL.of hB, rfl, _, _, rfl, rfl, _, rfl, ite2 (fun c => ?_) (fun c => ?_)⟩
    · have c' : (0 : Int) < g := of_decide_eq_true c
      obtain ⟨d, hd, ed⟩ := mod_nat (x := g) hn
      refine ⟨_, rfl, b, _, _, _, rfl, rfl, SqL.of hB, rfl, .inl ⟨_, rfl, _, rfl, _, _, rfl, rfl, hn3, ?_⟩⟩
      refine ⟨_, rfl, b, _, _, _, rfl, rfl, SqL.of hB, rfl, _, rfl, _, _, rfl, rfl, wide_div (b := 64) hn3 (by omega) (by decide) (by decide), _, rfl, b, _, _, 0, rfl, rfl, hB, rfl, ?_⟩
      refine ⟨_, rfl, ?_⟩
      show Q (V.int (g % (n : Int))) _
      rw [ed]
      refine q d _ hd (fun c o hc h => by rw [upd_ne hc]; exact h) ⟨g / (n : Int), f, s, upd_same, ⟨Int.ediv_nonneg g0 (by omega), f0, f1, s0, s1⟩⟩
    · refine ⟨_, rfl, b, _, _, _, rfl, rfl, SqL.of hB, rfl, _, _, rfl, rfl, .inr ⟨by decide, by decide⟩, _, _, rfl, rfl, .inl ⟨_, rfl, _, _, rfl, rfl, (by dsimp only; omega), _, rfl, b, _, _, 1, rfl, rfl, hB, rfl, ?_⟩⟩
      have hB1 : (upd H b (.lst [.int g, .int ((f * 48271 + 12345) % 2147483647), .int s])) b = some (.lst [.int g, .int ((f * 48271 + 12345) % 2147483647), .int s]) := upd_same
      refine ⟨_, rfl, b, _, _, _, rfl, rfl, SqL.of hB1, rfl, _, _, rfl, rfl, .inr ⟨by decide, by decide⟩, _, rfl, b, _, _, _, rfl, rfl, SqL.of hB1, rfl, _, _, rfl, rfl, .inl ⟨_, rfl, _, _, rfl, rfl, (by dsimp only; omega), _, rfl, b, _, _, 2, rfl, rfl, hB1, rfl, ?_⟩⟩
      have hB2 : (upd (upd H b (.lst [.int g, .int ((f * 48271 + 12345) % 2147483647), .int s])) b (.lst [.int g, .int ((f * 48271 + 12345) % 2147483647), .int ((s * 69621 + (f * 48271 + 12345) % 2147483647) % 2147483629)])) b = some (.lst [.int g, .int ((f * 48271 + 12345) % 2147483647), .int ((s * 69621 + (f * 48271 + 12345) % 2147483647) % 2147483629)]) := upd_same
      obtain ⟨d, hd, ed⟩ := mod_nat (x := (s * 69621 + (f * 48271 + 12345) % 2147483647) % 2147483629 / 8) hn
      refine ⟨_, rfl, b, _, _, _, rfl, rfl, SqL.of hB2, rfl, _, _, rfl, rfl, ⟨by decide, by decide⟩, .inl ⟨_, rfl, _, rfl, _, _, rfl, rfl, hn3, ?_⟩⟩
      show Q (V.int ((s * 69621 + (f * 48271 + 12345) % 2147483647) % 2147483629 / 8 % (n : Int))) _
      rw [ed]
      exact q d _ hd (fun c o hc h => (upd_ne hc).trans ((upd_ne hc).trans h)) ⟨_, _, _, hB2, ⟨g0, by omega, by omega, by omega, by omega⟩⟩
end
end K4
end
section
namespace K4
open PySem L2
theorem rgV_nat (n : Nat) : rgV 0 (n : Int) = vL (List.range n) := by
  unfold rgV vL
  rw [show ((n : Int) - 0).toNat = n by omega]
  exact List.map_congr_left fun i _ => by rw [Int.zero_add]
theorem RgOk.nat {n : Nat} (h : n ≤ 100) : RgOk 0 (n : Int) := RgOk.of_le (by omega) (by omega) (by omega) (by omega)
theorem erase_map {α β : Type} (f : α → β) : ∀ (l : List α) (i : Nat), (l.map f).eraseIdx i = (l.eraseIdx i).map f
  | [], _ => rfl
  | _ :: _, 0 => rfl
  | x :: l, i + 1 => by
    show f x :: (l.map f).eraseIdx i = f x :: (l.eraseIdx i).map f
    rw [erase_map f l i]
theorem cons_erase_perm : ∀ (l : List Nat) (i : Nat), i < l.length → (l.getD i 0 :: l.eraseIdx i).Perm l
  | [], _, h => absurd h (Nat.not_lt_zero _)
  | _ :: _, 0, _ => List.Perm.refl _
  | x :: l, i + 1, h => (List.Perm.swap x (l.getD i 0) (l.eraseIdx i)).trans ((cons_erase_perm l i (Nat.lt_of_succ_lt_succ h)).cons x)
theorem seqIx {d n : Nat} (h : d < n) : seqIndex? ((d : Nat) : Int) n = some d := by
  rw [PySem.seqIndex_of (by omega) (by omega)]
  rfl
section
variable {P : Program} {w : World} {K : PySem.W.Frag} {mg : Str → Option Value} {base : Heap} {a : Ad}
abbrev s_law_order : Stmt := topS 33
abbrev N_law_order : List Str := ["_law_bag_here", "_law_size_here", "_law_spare", "_law_order_here", "_law_k"]
theorem sc_law_order : FnScope N_law_order ["_law_bag_here", "_law_size_here"] (defScope s_law_order) := ⟨rfl, rfl, rfl, by decide +kernel, rfl, by decide +kernel, by decide +kernel⟩
def spOrder : Sp := fun vs H Q _ => ∃ (b : Addr) (n : Nat), vs = [.ref b, vN n] ∧ BagAt H b ∧ n ≤ 64 ∧ ∀ H' p ord, H p = none → But b H H' → BagAt H' b → ord.Perm (List.range n) → H' p = some (.lst (vL ord)) → Q (.ref p) H'
theorem B_law_order (T : Txt K mg a) : Binds K (a.fd 33) ["_law_bag_here", "_law_size_here"] [] := T.f_law_order.binds fun _ _ _ _ _ _ us hl => match us, hl with | [_, _], _ => rfl
theorem G_law_order (T : Txt K mg a) : FnOk P w K mg base CX0 3 (a.f 33) (a.fd 33) ["_law_bag_here", "_law_size_here"] spOrder := by
  refine T.f_law_order.ok sc_law_order (fun vs H Q E h => ?_) (fun cdv A outer s H vs Q E hr h => ?_)
  · obtain ⟨_, _, rfl, _⟩ := h
    rfl
  · obtain ⟨b, n, rfl, hB, hn, q⟩ := h
    refine ⟨_, (pss_cons (ps_set (i := 2) sc_law_order.nd rfl (Or.inl rfl) (pe_listRg rfl rfl T.n_list (prg_1 rfl T.n_range (pv 1))))
      (pss_cons (ps_set (i := 3) sc_law_order.nd rfl (Or.inl rfl) (pe_lst pa_nil))
      (pss_cons (ps_for PassesOwn.never rfl (pi_range1 (by rfl) T.n_range (pa_cons (pv 1) pa_nil)) (pg_name (i := 4) sc_law_order.nd rfl (Or.inl rfl))
        (pss_one (ps_expr (pe_bm PySem.F.plainAttrs_list PySem.F.slot_list_append PySem.F.type_list_append mt_append (pv 3) (pa_cons (pe_bm PySem.F.plainAttrs_list PySem.F.slot_list_pop PySem.F.type_list_pop mt_popAt (pv 2) (pa_cons (pe_call (G_law_take T) (hr.mono (by decide)) rfl T.m_law_take T.f_law_take.kp (B_law_take T) .nil pass0 (pa_cons (pv 0) (pa_cons (pe_op op_sub (pv 1) (pv 4)) pa_nil))) pa_nil)) pa_nil)))))
      (pss_one (ps_ret (pv 3)))))), ?_⟩
    have hB' := hB
    obtain ⟨g, f, s, hb, _⟩ := hB'
    refine ⟨_, rfl, _, rfl, RgOk.nat (by omega), fun p1 h1 => ⟨by decide, fun p2 h2 => ?_⟩⟩
    rw [rgV_nat] at h2 ⊢
    have n1 : p1 ≠ b := fun e => by rw [e, hb] at h1; cases h1
    have n12 : p2 ≠ p1 := fun e => by rw [e, upd_same] at h2; cases h2
    have h2' : H p2 = none := by rw [upd_ne n12] at h2; exact h2
    have n2 : p2 ≠ b := fun e => by rw [e, hb] at h2'; cases h2'
    refine ⟨_, rfl, _, rfl, by omega, by omega, for_range (fun i σ H' => BagAt H' b ∧ But b H H' ∧ ∃ (o sp : List Nat) (x : Option V), σ = [some (.ref b), some (vN n), some (.ref p1), some (.ref p2), x] ∧ H' p1 = some (.lst (vL sp)) ∧ H' p2 = some (.lst (vL o)) ∧ o.length = i ∧ (o ++ sp).Perm (List.range n)) ⟨?_, ?_, [], List.range n, none, rfl, ?_, upd_same, rfl, List.Perm.refl _⟩ ?_ ?_⟩
    · exact ⟨g, f, s, by rw [upd_ne (Ne.symm n2), upd_ne (Ne.symm n1)]; exact hb, ‹_›⟩
    · intro c o hc h
      rw [upd_ne (ne_of_none h h2'), upd_ne (ne_of_none h h1)]
      exact h
    · rw [upd_ne (Ne.symm n12)]
      exact upd_same
    · rintro i σ H2 hi ⟨hB2, hbt, o, sp, x, rfl, e1, e2, ho, hp⟩
      have hi : i < n := by omega
      have hl : o.length + sp.length = n := by
        have := hp.length_eq
        simpa using this
      refine ⟨_, rfl, .inl ⟨rfl, _, SqL.of e2⟩, _, rfl, .inl ⟨rfl, _, SqL.of e1⟩, _, rfl, _, rfl, _, rfl, _, _, rfl, rfl, b, n - i, ?_, hB2, by omega, by omega, fun d H3 hd b3 hB3 => ?_⟩
      · show [V.ref b, V.int ((n : Int) - (0 + (i : Int)))] = _
        rw [show ((n : Int) - (0 + (i : Int))) = ((n - i : Nat) : Int) by omega]
      have f1 := b3 p1 _ n1 e1
      have f2 := b3 p2 _ n2 e2
      refine ⟨p1, _, _, d, vN (sp.getD d 0), rfl, rfl, f1, by omega, by omega, ?_, vL_get (by omega), p2, _, _, rfl, rfl, by rw [upd_ne n12]; exact f2, by rw [vL, List.length_map]; exact sz64' (by omega), ?_⟩
      · rw [vL, List.length_map]
        exact seqIx (by omega)
      · refine ⟨?_, ?_, o ++ [sp.getD d 0], sp.eraseIdx d, _, rfl, ?_, ?_, by rw [List.length_append, ho]; rfl, ?_⟩
        · obtain ⟨g3, f3, s3, hb3, w3⟩ := hB3
          exact ⟨g3, f3, s3, by rw [upd_ne (Ne.symm n2), upd_ne (Ne.symm n1)]; exact hb3, w3⟩
        · intro c o' hc h
          rw [upd_ne (ne_of_none h h2'), upd_ne (ne_of_none h h1)]
          exact b3 _ _ hc (hbt _ _ hc h)
        · rw [upd_ne (Ne.symm n12), upd_same, vL, vL, erase_map]
        · rw [upd_same, vL, vL, List.map_append]
          rfl
        · rw [List.append_assoc]
          refine List.Perm.trans ?_ hp
          refine List.Perm.append_left _ ?_
          exact cons_erase_perm sp d (by omega)
    · rintro σ H2 ⟨hB2, hbt, o, sp, x, rfl, e1, e2, ho, hp⟩
      have hl : o.length + sp.length = n := by
        have := hp.length_eq
        simpa using this
      have : sp = [] := List.eq_nil_of_length_eq_zero (by omega)
      rw [this, List.append_nil] at hp
      exact ⟨_, rfl, q H2 p2 o h2' hbt hB2 hp e2⟩
abbrev s_law_wide : Stmt := topS 34
abbrev N_law_wide : List Str := ["_law_bag_here", "_law_many", "_law_drawn", "_law_k"]
theorem sc_law_wide : FnScope N_law_wide ["_law_bag_here", "_law_many"] (defScope s_law_wide) := ⟨rfl, rfl, rfl, by decide +kernel, rfl, by decide +kernel, by decide +kernel⟩
def spWide : Sp := fun vs H Q _ => ∃ (b : Addr) (n : Nat), vs = [.ref b, vN n] ∧ BagAt H b ∧ 0 < n ∧ ∀ d H', d < n → But b H H' → BagAt H' b → Q (vN d) H'
theorem B_law_wide (T : Txt K mg a) : Binds K (a.fd 34) ["_law_bag_here", "_law_many"] [] := T.f_law_wide.binds fun _ _ _ _ _ _ us hl => match us, hl with | [_, _], _ => rfl
theorem G_law_wide (T : Txt K mg a) : FnOk P w K mg base CX0 3 (a.f 34) (a.fd 34) ["_law_bag_here", "_law_many"] spWide := by
  refine T.f_law_wide.ok sc_law_wide (fun vs H Q E h => ?_) (fun cdv A outer s H vs Q E hr h => ?_)
  · obtain ⟨_, _, rfl, _⟩ := h
    rfl
  · obtain ⟨b, n, rfl, hB, hn, q⟩ := h
    refine ⟨_, (pss_cons (ps_set (i := 2) sc_law_wide.nd rfl (Or.inl rfl) pe_int)
      (pss_cons (ps_for PassesOwn.never rfl (pi_range1 (by rfl) T.n_range (pa_cons pe_int pa_nil)) (pg_name (i := 3) sc_law_wide.nd rfl (Or.inl rfl))
        (pss_one (ps_set (i := 2) sc_law_wide.nd rfl (Or.inl rfl) (pe_op op_add (pe_op op_mul (pv 2) pe_int) (pe_call (G_law_take T) (hr.mono (by decide)) rfl T.m_law_take T.f_law_take.kp (B_law_take T) .nil pass0 (pa_cons (pv 0) (pa_cons pe_int pa_nil)))))))
      (pss_one (ps_ret (pe_op op_mod (pe_callTy call_int1 (by rfl) T.n_int (by decide +kernel) (pa_cons (pv 2) pa_nil)) (pv 1)))))), ?_⟩
    refine ⟨_, rfl, by decide, by decide, for_range (fun i σ H' => BagAt H' b ∧ But b H H' ∧ ∃ (z : Int) (x : Option V), σ = [some (.ref b), some (vN n), some (.int z), x]) ⟨hB, But.refl _ _, 0, none, rfl⟩ ?_ ?_⟩
    · rintro i σ H2 hi ⟨hB2, hbt, z, x, rfl⟩
      refine ⟨_, rfl, _, _, rfl, rfl, .inr ⟨by decide, by decide⟩, _, rfl, b, 1000003, rfl, hB2, by decide, by decide, fun d H3 hd b3 hB3 => ⟨_, _, rfl, rfl, hB3, hbt.trans b3, _, _, rfl⟩⟩
    · rintro σ H2 ⟨hB2, hbt, z, x, rfl⟩
      have hn3 : (0 : Int) < (n : Int) := by omega
      refine ⟨_, rfl, .inl ⟨_, rfl, _, rfl, _, _, rfl, rfl, hn3, ?_⟩⟩
      obtain ⟨d, hd, ed⟩ := mod_nat (x := z) hn
      show Q (V.int (z % (n : Int))) _
      rw [ed]
      exact q d _ hd hbt hB2
abbrev s_law_pattern : Stmt := topS 35
abbrev N_law_pattern : List Str := ["_law_which", "_law_forms"]
theorem sc_law_pattern : FnScope N_law_pattern ["_law_which"] (defScope s_law_pattern) := ⟨rfl, rfl, rfl, by decide +kernel, rfl, by decide +kernel, by decide +kernel⟩
def spPattern : Sp := fun vs H Q _ => ∃ k : Nat, vs = [vN k] ∧ k < 8 ∧ ∀ H' p, H p = none → Same H H' → H' p = some (.tup (vL (shp.getD k []))) → Q (.ref p) H'
theorem B_law_pattern (T : Txt K mg a) : Binds K (a.fd 35) ["_law_which"] [] := T.f_law_pattern.binds fun _ _ _ _ _ _ us hl => match us, hl with | [_], _ => rfl
theorem tup_new {H H' : Hp} {p : Addr} {o : HO} (s : Same H H') (hp : H' p = none) : H p = none ∧ Same H (upd H' p o) := ⟨s.free hp, s.trans (same_new hp)⟩
theorem G_law_pattern (T : Txt K mg a) : FnOk P w K mg base CX0 1 (a.f 35) (a.fd 35) ["_law_which"] spPattern := by
  refine T.f_law_pattern.ok sc_law_pattern (fun vs H Q E h => ?_) (fun cdv A outer s H vs Q E hr h => ?_)
  · obtain ⟨_, rfl, _⟩ := h
    rfl
  · obtain ⟨k, rfl, hk, q⟩ := h
    refine ⟨_, (pss_cons (ps_set (i := 1) sc_law_pattern.nd rfl (Or.inl rfl) (pe_lst (pa_cons (pe_tup (pa_cons pe_int pa_nil)) (pa_cons (pe_tup (pa_cons pe_int (pa_cons pe_int pa_nil))) (pa_cons (pe_tup (pa_cons pe_int (pa_cons pe_int pa_nil))) (pa_cons (pe_tup (pa_cons pe_int (pa_cons pe_int (pa_cons pe_int pa_nil)))) (pa_cons (pe_tup (pa_cons pe_int (pa_cons pe_int (pa_cons pe_int pa_nil)))) (pa_cons (pe_tup (pa_cons pe_int (pa_cons pe_int (pa_cons pe_int (pa_cons pe_int pa_nil))))) (pa_cons (pe_tup (pa_cons pe_int (pa_cons pe_int (pa_cons pe_int (pa_cons pe_int pa_nil))))) (pa_cons (pe_tup (pa_cons pe_int (pa_cons pe_int (pa_cons pe_int (pa_cons pe_int pa_nil))))) pa_nil))))))))))
      (pss_one (ps_ret (pe_ix ix_list (pv 1) (pv 0) (fun _ _ => rfl))))), ?_⟩
    refine ⟨by decide, fun p0 h0 => ⟨by decide, fun p1 h1 => ⟨by decide, fun p2 h2 => ⟨by decide, fun p3 h3 => ⟨by decide, fun p4 h4 => ⟨by decide, fun p5 h5 => ⟨by decide, fun p6 h6 => ⟨by decide, fun p7 h7 => ⟨(by show 8 ≤ sizeLine; decide), fun l hl => ?_⟩⟩⟩⟩⟩⟩⟩⟩⟩
    have g8 := same_new (o := .lst [V.ref p0, V.ref p1, V.ref p2, V.ref p3, V.ref p4, V.ref p5, V.ref p6, V.ref p7]) hl
    have g7 := (same_new h7).trans g8
    have g6 := (same_new h6).trans g7
    have g5 := (same_new h5).trans g6
    have g4 := (same_new h4).trans g5
    have g3 := (same_new h3).trans g4
    have g2 := (same_new h2).trans g3
    have g1 := (same_new h1).trans g2
    have g0 := (same_new h0).trans g1
    have f1 := (same_new (o := .tup [V.int 0]) h0)
    have f2 := f1.trans (same_new (o := .tup [V.int 1, V.int 0]) h1)
    have f3 := f2.trans (same_new (o := .tup [V.int 1, V.int 1]) h2)
    have f4 := f3.trans (same_new (o := .tup [V.int 1, V.int 2, V.int 1]) h3)
    have f5 := f4.trans (same_new (o := .tup [V.int 1, V.int 2, V.int 2]) h4)
    have f6 := f5.trans (same_new (o := .tup [V.int 1, V.int 2, V.int 1, V.int 2]) h5)
    have f7 := f6.trans (same_new (o := .tup [V.int 1, V.int 2, V.int 3, V.int 2]) h6)
    have c : ∃ p : Addr, [V.ref p0, V.ref p1, V.ref p2, V.ref p3, V.ref p4, V.ref p5, V.ref p6, V.ref p7][k]? = some (V.ref p) ∧ H p = none ∧ (upd (upd (upd (upd (upd (upd (upd (upd (upd H p0 (.tup [V.int 0])) p1 (.tup [V.int 1, V.int 0])) p2 (.tup [V.int 1, V.int 1])) p3 (.tup [V.int 1, V.int 2, V.int 1])) p4 (.tup [V.int 1, V.int 2, V.int 2])) p5 (.tup [V.int 1, V.int 2, V.int 1, V.int 2])) p6 (.tup [V.int 1, V.int 2, V.int 3, V.int 2])) p7 (.tup [V.int 1, V.int 2, V.int 3, V.int 0])) l (.lst [V.ref p0, V.ref p1, V.ref p2, V.ref p3, V.ref p4, V.ref p5, V.ref p6, V.ref p7])) p = some (.tup (vL (shp.getD k []))) := by
      rcases (by omega : k = 0 ∨ k = 1 ∨ k = 2 ∨ k = 3 ∨ k = 4 ∨ k = 5 ∨ k = 6 ∨ k = 7) with rfl | rfl | rfl | rfl | rfl | rfl | rfl | rfl
      · exact ⟨p0, rfl, h0, g1 _ _ upd_same⟩
      · exact ⟨p1, rfl, f1.free h1, g2 _ _ upd_same⟩
      · exact ⟨p2, rfl, f2.free h2, g3 _ _ upd_same⟩
      · exact ⟨p3, rfl, f3.free h3, g4 _ _ upd_same⟩
      · exact ⟨p4, rfl, f4.free h4, g5 _ _ upd_same⟩
      · exact ⟨p5, rfl, f5.free h5, g6 _ _ upd_same⟩
      · exact ⟨p6, rfl, f6.free h6, g7 _ _ upd_same⟩
      · exact ⟨p7, rfl, f7.free h7, g8 _ _ upd_same⟩
    obtain ⟨p, e1, e2, e3⟩ := c
    exact ⟨_, rfl, _, rfl, l, _, _, _, rfl, rfl, SqL.of upd_same, atI_nat e1, q _ p e2 g0 e3⟩
end
end K4
end
section
namespace K4
open PySem L2
section
variable {P : Program} {w : World} {K : PySem.W.Frag} {mg : Str → Option Value} {base : Heap} {a : Ad}
abbrev s_law_in_all : Stmt := topS 37
abbrev N_law_in_all : List Str := ["_law_size_here", "_law_totals", "_law_n", "_law_many"]
theorem sc_law_in_all : FnScope N_law_in_all ["_law_size_here"] (defScope s_law_in_all) := ⟨rfl, rfl, rfl, by decide +kernel, rfl, by decide +kernel, by decide +kernel⟩
def spInAll : Sp := fun vs H Q _ => ∃ n : Nat, vs = [vN n] ∧ n ≤ 64 ∧ ∀ H', Same H H' → Q (vN (T n)) H'
theorem B_law_in_all (T : Txt K mg a) : Binds K (a.fd 37) ["_law_size_here"] [] := T.f_law_in_all.binds fun _ _ _ _ _ _ us hl => match us, hl with | [_], _ => rfl
theorem tot_at {m i : Nat} (h : i ≤ m) : atI (vL (tot m)) ((i : Nat) : Int) = some (vN (T i)) := by
  rw [vL_at (by rw [tot_len]; omega), tot_get m i h]
theorem tot_app (m : Nat) : vL (tot m) ++ [vN (T (m + 1))] = vL (tot (m + 1)) := by
  show _ = vL (tot m ++ [sumBlk (tot m) (m + 1)])
  rw [← T_succ, vL, vL, List.map_append]
  rfl
theorem in_cast {x y : Int} {m n : Nat} (hx : x = (m : Int)) (hy : y = (n : Int)) : x * y = ((m * n : Nat) : Int) := by rw [hx, hy, Int.natCast_mul]
theorem T_le1 {m : Nat} (h : m = 0) : T (m + 1) = T m := by rw [T_law (by omega)]; subst h; rfl
theorem T_le2 {m : Nat} (h : m = 1) : T (m + 1) = T m + 3 * m * T (m - 1) := by rw [T_law (by omega)]; subst h; rfl
theorem T_le3 {m : Nat} (h : m = 2) : T (m + 1) = T m + 3 * m * T (m - 1) + 6 * m * (m - 1) * T (m - 2) := by rw [T_law (by omega)]; subst h; rfl
theorem T_le4 {m : Nat} (h : 3 ≤ m) : T (m + 1) = T m + 3 * m * T (m - 1) + 6 * m * (m - 1) * T (m - 2) + 7 * m * (m - 1) * (m - 2) * T (m - 3) := by
  rw [T_law (by omega), if_pos (by omega), if_pos (by omega), if_pos (by omega)]
  rfl
theorem G_law_in_all (T : Txt K mg a) : FnOk P w K mg base CX0 1 (a.f 37) (a.fd 37) ["_law_size_here"] spInAll := by
  refine T.f_law_in_all.ok sc_law_in_all (fun vs H Q E h => ?_) (fun cdv A outer s H vs Q E hr h => ?_)
  · obtain ⟨_, rfl, _⟩ := h
    rfl
  · obtain ⟨n, rfl, hn, q⟩ := h
    refine ⟨_, (pss_cons (ps_set (i := 1) sc_law_in_all.nd rfl (Or.inl rfl) (pe_lst (pa_cons pe_int pa_nil)))
      (pss_cons (ps_for PassesOwn.never rfl (pi_range2 (by rfl) T.n_range (pa_cons pe_int (pa_cons (pe_op op_add (pv 0) pe_int) pa_nil))) (pg_name (i := 2) sc_law_in_all.nd rfl (Or.inl rfl))
        (pss_cons (ps_set (i := 3) sc_law_in_all.nd rfl (Or.inl rfl) (pe_ix ix_list (pv 1) (pe_op op_sub (pv 2) pe_int) (fun _ _ => rfl)))
        (pss_cons (ps_if (pt_cmpR op_gt (pv 2) pe_int (nomark _))
          (pss_one (ps_set (i := 3) sc_law_in_all.nd rfl (Or.inl rfl) (pe_op op_add (pv 3) (pe_op op_mul (pe_op op_mul pe_int (pe_op op_sub (pv 2) pe_int)) (pe_ix ix_list (pv 1) (pe_op op_sub (pv 2) pe_int) (fun _ _ => rfl))))))
          pss_nil)
        (pss_cons (ps_if (pt_cmpR op_gt (pv 2) pe_int (nomark _))
          (pss_one (ps_set (i := 3) sc_law_in_all.nd rfl (Or.inl rfl) (pe_op op_add (pv 3) (pe_op op_mul (pe_op op_mul (pe_op op_mul pe_int (pe_op op_sub (pv 2) pe_int)) (pe_op op_sub (pv 2) pe_int)) (pe_ix ix_list (pv 1) (pe_op op_sub (pv 2) pe_int) (fun _ _ => rfl))))))
          pss_nil)
        (pss_cons (ps_if (pt_cmpR op_gt (pv 2) pe_int (nomark _))
          (pss_one (ps_set (i := 3) sc_law_in_all.nd rfl (Or.inl rfl) (pe_op op_add (pv 3) (pe_op op_mul (pe_op op_mul (pe_op op_mul (pe_op op_mul pe_int (pe_op op_sub (pv 2) pe_int)) (pe_op op_sub (pv 2) pe_int)) (pe_op op_sub (pv 2) pe_int)) (pe_ix ix_list (pv 1) (pe_op op_sub (pv 2) pe_int) (fun _ _ => rfl))))))
          pss_nil)
        (pss_one (ps_expr (pe_bm PySem.F.plainAttrs_list PySem.F.slot_list_append PySem.F.type_list_append mt_append (pv 1) (pa_cons (pv 3) pa_nil)))))))))
      (pss_one (ps_ret (pe_ix ix_list (pv 1) (pv 0) (fun _ _ => rfl)))))), ?_⟩
    refine ⟨by decide, fun p hp => ?_⟩
    refine ⟨_, rfl, _, _, rfl, rfl, _, _, rfl, ⟨by decide, by decide, by omega, by omega⟩, for_range (fun i σ H' => Same H H' ∧ H' p = some (.lst (vL (tot i))) ∧ ∃ x y, σ = [some (vN n), some (.ref p), x, y]) ⟨same_new hp, upd_same, none, none, rfl⟩ ?_ ?_⟩
    · rintro i σ H2 hi ⟨s2, h2, x, y, rfl⟩
      have hi : i < n := by omega
      have A1 : (1 + (i : Int)) - 1 = ((i : Nat) : Int) := by omega
      have A2 : 1 ≤ i → (1 + (i : Int)) - 2 = ((i - 1 : Nat) : Int) := fun _ => by omega
      have A3 : 2 ≤ i → (1 + (i : Int)) - 3 = ((i - 2 : Nat) : Int) := fun _ => by omega
      have A4 : 3 ≤ i → (1 + (i : Int)) - 4 = ((i - 3 : Nat) : Int) := fun _ => by omega
      have M3 : (3 : Int) * ((1 + (i : Int)) - 1) = ((3 * i : Nat) : Int) := by omega
      have M6 : (6 : Int) * ((1 + (i : Int)) - 1) = ((6 * i : Nat) : Int) := by omega
      have M7 : (7 : Int) * ((1 + (i : Int)) - 1) = ((7 * i : Nat) : Int) := by omega
      have L3 : 3 * i < 18446744073709551616 := by omega
      have L6 : 6 * i * (i - 1) < 18446744073709551616 := Nat.lt_of_le_of_lt (Nat.mul_le_mul (show 6 * i ≤ 1000 by omega) (show i - 1 ≤ 1000 by omega)) (by decide)
      have L7 : 7 * i * (i - 1) < 18446744073709551616 := Nat.lt_of_le_of_lt (Nat.mul_le_mul (show 7 * i ≤ 1000 by omega) (show i - 1 ≤ 1000 by omega)) (by decide)
      have L8 : 7 * i * (i - 1) * (i - 2) < 18446744073709551616 := Nat.lt_of_le_of_lt (Nat.mul_le_mul (Nat.mul_le_mul (show 7 * i ≤ 1000 by omega) (show i - 1 ≤ 1000 by omega)) (show i - 2 ≤ 1000 by omega)) (by decide)
      have ed : ∀ z : Int, z = ((K4.T (i + 1) : Nat) : Int) → (upd H2 p (.lst (vL (tot i) ++ [V.int z]))) p = some (.lst (vL (tot (i + 1)))) := fun z hz => by rw [upd_same, hz, tot_app]
      refine ⟨_, rfl, _, rfl, _, _, rfl, rfl, p, _, _, _, rfl, rfl, SqL.of h2, (by rw [A1]; exact tot_at (Nat.le_refl _)), _, rfl, _, _, rfl, rfl, _, rfl, ite2 (fun c1 => ?_) (fun c1 => ?_)⟩
      · have c1 : (1 : Int) < 1 + (i : Int) := of_decide_eq_true c1
        refine ⟨_, rfl, _, rfl, _, _, rfl, rfl, _, _, rfl, rfl, .inl ⟨by decide, by decide⟩, _, rfl, _, rfl, _, _, rfl, rfl, p, _, _, _, rfl, rfl, SqL.of h2, (by rw [A2 (by omega)]; exact tot_at (by omega)), _, _, rfl, rfl, small_mul M3 L3, _, _, rfl, rfl, _, rfl, _, _, rfl, rfl, _, rfl, ite2 (fun c2 => ?_) (fun c2 => ?_)⟩
        · have c2 : (2 : Int) < 1 + (i : Int) := of_decide_eq_true c2
          have M62 := in_cast M6 (A2 (by omega))
          refine ⟨_, rfl, _, rfl, _, _, rfl, rfl, _, _, rfl, rfl, .inl ⟨by decide, by decide⟩, _, rfl, _, _, rfl, rfl, _, _, rfl, rfl, small_mul M6 (by omega), _, rfl, _, rfl, _, _, rfl, rfl, p, _, _, _, rfl, rfl, SqL.of h2, (by rw [A3 (by omega)]; exact tot_at (by omega)), _, _, rfl, rfl, small_mul M62 L6, _, _, rfl, rfl, _, rfl, _, _, rfl, rfl, _, rfl, ite2 (fun c3 => ?_) (fun c3 => ?_)⟩
          · have c3 : (3 : Int) < 1 + (i : Int) := of_decide_eq_true c3
            have M72 := in_cast M7 (A2 (by omega))
            have M73 := in_cast M72 (A3 (by omega))
            refine ⟨_, rfl, _, rfl, _, _, rfl, rfl, _, _, rfl, rfl, .inl ⟨by decide, by decide⟩, _, rfl, _, _, rfl, rfl, _, _, rfl, rfl, small_mul M7 (by omega), _, rfl, _, _, rfl, rfl, _, _, rfl, rfl, small_mul M72 L7, _, rfl, _, rfl, _, _, rfl, rfl, p, _, _, _, rfl, rfl, SqL.of h2, (by rw [A4 (by omega)]; exact tot_at (by omega)), _, _, rfl, rfl, small_mul M73 L8, _, _, rfl, rfl, _, rfl, .inl ⟨rfl, _, SqL.of h2⟩, _, rfl, p, _, _, rfl, rfl, h2, (by rw [vL, List.length_map, tot_len]; exact sz64' (by omega)), same_mut s2 hp, ?_, _, _, rfl⟩
            refine ed _ ?_
            rw [in_cast M3 rfl, in_cast M62 rfl, in_cast M73 rfl, T_le4 (by omega)]
            simp only [Int.natCast_add]
          · have c3 : ¬ (3 : Int) < 1 + (i : Int) := fun z => c3 (decide_eq_true z)
            refine ⟨_, rfl, .inl ⟨rfl, _, SqL.of h2⟩, _, rfl, p, _, _, rfl, rfl, h2, (by rw [vL, List.length_map, tot_len]; exact sz64' (by omega)), same_mut s2 hp, ?_, _, _, rfl⟩
            refine ed _ ?_
            rw [in_cast M3 rfl, in_cast M62 rfl, T_le3 (by omega)]
            simp only [Int.natCast_add]
        · have c2 : ¬ (2 : Int) < 1 + (i : Int) := fun z => c2 (decide_eq_true z)
          refine ⟨_, rfl, _, _, rfl, rfl, _, rfl, ite2 (fun c3 => ?_) (fun c3 => ?_)⟩
          · have c3 : (3 : Int) < 1 + (i : Int) := of_decide_eq_true c3
            omega
          · refine ⟨_, rfl, .inl ⟨rfl, _, SqL.of h2⟩, _, rfl, p, _, _, rfl, rfl, h2, (by rw [vL, List.length_map, tot_len]; exact sz64' (by omega)), same_mut s2 hp, ?_, _, _, rfl⟩
            refine ed _ ?_
            rw [in_cast M3 rfl, T_le2 (by omega)]
            simp only [Int.natCast_add]
      · have c1 : ¬ (1 : Int) < 1 + (i : Int) := fun z => c1 (decide_eq_true z)
        refine ⟨_, rfl, _, _, rfl, rfl, _, rfl, ite2 (fun c2 => ?_) (fun c2 => ?_)⟩
        · have c2 : (2 : Int) < 1 + (i : Int) := of_decide_eq_true c2
          omega
        · refine ⟨_, rfl, _, _, rfl, rfl, _, rfl, ite2 (fun c3 => ?_) (fun c3 => ?_)⟩
          · have c3 : (3 : Int) < 1 + (i : Int) := of_decide_eq_true c3
            omega
          · refine ⟨_, rfl, .inl ⟨rfl, _, SqL.of h2⟩, _, rfl, p, _, _, rfl, rfl, h2, (by rw [vL, List.length_map, tot_len]; exact sz64' (by omega)), same_mut s2 hp, ?_, _, _, rfl⟩
            refine ed _ ?_
            rw [T_le1 (by omega)]
    · rintro σ H2 ⟨s2, h2, x, y, rfl⟩
      refine ⟨_, rfl, _, rfl, p, _, _, _, rfl, rfl, SqL.of h2, by rw [show ((n : Int) + 1 - 1).toNat = n by omega]; exact tot_at (Nat.le_refl _), q H2 s2⟩
abbrev s_law_is : Stmt := topS 38
abbrev N_law_is : List Str := ["_law_told", "_law_due"]
theorem sc_law_is : FnScope N_law_is ["_law_told", "_law_due"] (defScope s_law_is) := ⟨rfl, rfl, rfl, by decide +kernel, rfl, by decide +kernel, by decide +kernel⟩
def spIs : Sp := fun vs H Q _ => ∃ x y : Int, vs = [.int x, .int y] ∧ Q (.bl (decide (x = y))) H
theorem B_law_is (T : Txt K mg a) : Binds K (a.fd 38) ["_law_told", "_law_due"] [] := T.f_law_is.binds fun _ _ _ _ _ _ us hl => match us, hl with | [_, _], _ => rfl
theorem G_law_is (T : Txt K mg a) : FnOk P w K mg base CX0 1 (a.f 38) (a.fd 38) ["_law_told", "_law_due"] spIs := by
  refine T.f_law_is.ok sc_law_is (fun vs H Q E h => ?_) (fun cdv A outer s H vs Q E hr h => ?_)
  · obtain ⟨_, _, rfl, _⟩ := h
    rfl
  · obtain ⟨x, y, rfl, q⟩ := h
    refine ⟨_, (pss_one (ps_ret (pe_and (pe_callB call_isi (by rfl) T.n_isinstance (by decide +kernel) (pa_cons (pv 0) (pa_cons (pe_bltn (v := V.ty "int") (by rfl) T.n_int (by decide +kernel) rfl) pa_nil))) (pe_and (pe_not (pe_callB call_isi (by rfl) T.n_isinstance (by decide +kernel) (pa_cons (pv 0) (pa_cons (pe_bltn (v := V.ty "bool") (by rfl) T.n_bool (by decide +kernel) rfl) pa_nil)))) (pe_one (pe_cmpR op_eq (pv 0) (pv 1) (nomark _))))))), ?_⟩
    refine ⟨_, rfl, _, _, _, _, true, rfl, .ty _, .base (.int _), kit_ty (by decide +kernel), true, rfl, iteT ?_⟩
    refine ⟨_, rfl, _, _, _, _, false, rfl, .ty _, .base (.int _), kit_ty (by decide +kernel), false, rfl, true, rfl, iteT ?_⟩
    refine ⟨_, rfl, _, rfl, rfl, ?_⟩
    have e : decide (V.int x = V.int y) = decide (x = y) := by rw [dec_int]; exact Bool.eq_iff_iff.mpr (by simp)
    rw [e]
    exact q
abbrev s_law_size : Stmt := topS 46
abbrev N_law_size : List Str := ["_law_bag_here", "_law_size_here", "_law_way"]
theorem sc_law_size : FnScope N_law_size ["_law_bag_here"] (defScope s_law_size) := ⟨rfl, rfl, rfl, by decide +kernel, rfl, by decide +kernel, by decide +kernel⟩
def spSize : Sp := fun vs H Q _ => ∃ b : Addr, vs = [.ref b] ∧ BagAt H b ∧ ∀ d H', d ≤ 64 → But b H H' → BagAt H' b → Q (vN d) H'
theorem B_law_size (T : Txt K mg a) : Binds K (a.fd 46) ["_law_bag_here"] [] := T.f_law_size.binds fun _ _ _ _ _ _ us hl => match us, hl with | [_], _ => rfl
theorem G_law_size (T : Txt K mg a) : FnOk P w K mg base CX0 3 (a.f 46) (a.fd 46) ["_law_bag_here"] spSize := by
  refine T.f_law_size.ok sc_law_size (fun vs H Q E h => ?_) (fun cdv A outer s H vs Q E hr h => ?_)
  · obtain ⟨_, rfl, _⟩ := h
    rfl
  · obtain ⟨b, rfl, hB, q⟩ := h
    refine ⟨_, (pss_cons (ps_set (i := 1) sc_law_size.nd rfl (Or.inl rfl) (pe_call (G_law_take T) (hr.mono (by decide)) rfl T.m_law_take T.f_law_take.kp (B_law_take T) .nil pass0 (pa_cons (pv 0) (pa_cons pe_int pa_nil))))
      (pss_cons (ps_set (i := 2) sc_law_size.nd rfl (Or.inl rfl) (pe_call (G_law_take T) (hr.mono (by decide)) rfl T.m_law_take T.f_law_take.kp (B_law_take T) .nil pass0 (pa_cons (pv 0) (pa_cons pe_int pa_nil))))
      (pss_cons (ps_if (pt_cmpR op_eq (pe_op op_mod (pe_callTy call_int1 (by rfl) T.n_int (by decide +kernel) (pa_cons (pv 2) pa_nil)) pe_int) pe_int (nomark _))
        (pss_one (ps_set (i := 1) sc_law_size.nd rfl (Or.inl rfl) (pe_op op_add pe_int (pe_call (G_law_take T) (hr.mono (by decide)) rfl T.m_law_take T.f_law_take.kp (B_law_take T) .nil pass0 (pa_cons (pv 0) (pa_cons pe_int pa_nil))))))
        pss_nil)
      (pss_cons (ps_if (pt_cmpR op_eq (pv 2) pe_int (nomark _))
        (pss_one (ps_set (i := 1) sc_law_size.nd rfl (Or.inl rfl) (pe_op op_add pe_int (pe_call (G_law_take T) (hr.mono (by decide)) rfl T.m_law_take T.f_law_take.kp (B_law_take T) .nil pass0 (pa_cons (pv 0) (pa_cons pe_int pa_nil))))))
        pss_nil)
      (pss_cons (ps_if (pt_cmpR op_eq (pv 2) pe_int (nomark _))
        (pss_one (ps_set (i := 1) sc_law_size.nd rfl (Or.inl rfl) (pe_op op_add pe_int (pe_call (G_law_take T) (hr.mono (by decide)) rfl T.m_law_take T.f_law_take.kp (B_law_take T) .nil pass0 (pa_cons (pv 0) (pa_cons pe_int pa_nil))))))
        pss_nil)
      (pss_one (ps_ret (pv 1)))))))), ?_⟩
    refine ⟨_, rfl, b, 9, rfl, hB, by decide, by decide, fun d H1 hd b1 B1 => ?_⟩
    refine ⟨_, rfl, b, 32, rfl, B1, by decide, by decide, fun e H2 he b2 B2 => ?_⟩
    have b12 := b1.trans b2
    refine ⟨_, rfl, .inl ⟨_, rfl, _, _, rfl, rfl, (by dsimp only; omega), rfl, _, rfl, ite2 (fun c1 => ?_) (fun c1 => ?_)⟩⟩
    · refine ⟨_, rfl, b, 5, rfl, B2, by decide, by decide, fun f H3 hf b3 B3 => ?_⟩
      have b13 := b12.trans b3
      refine ⟨_, _, rfl, rfl, ?_⟩
      have k1 : f + 9 ≤ 64 := by omega
      have e1 : V.int (9 + ((f : Nat) : Int)) = vN (f + 9) := by show V.int _ = V.int _; rw [show (9 + ((f : Nat) : Int)) = ((f + 9 : Nat) : Int) by omega]
      refine ⟨_, rfl, rfl, _, rfl, ite2 (fun c2 => ?_) (fun c2 => ?_)⟩
      · have c2 : V.int ((e : Nat) : Int) = V.int 2 := of_decide_eq_true c2
        have c2 : ((e : Nat) : Int) = 2 := V.int.inj c2
        have c1 : V.int (((e : Nat) : Int) % 8) = V.int 1 := of_decide_eq_true c1
        have c1 : ((e : Nat) : Int) % 8 = 1 := V.int.inj c1
        omega
      · refine ⟨_, rfl, rfl, _, rfl, ite2 (fun c3 => ?_) (fun c3 => ?_)⟩
        · have c2 : V.int ((e : Nat) : Int) = V.int 3 := of_decide_eq_true c3
          have c2 : ((e : Nat) : Int) = 3 := V.int.inj c2
          have c1 : V.int (((e : Nat) : Int) % 8) = V.int 1 := of_decide_eq_true c1
          have c1 : ((e : Nat) : Int) % 8 = 1 := V.int.inj c1
          omega
        · refine ⟨_, rfl, ?_⟩
          show Q (V.int (9 + ((f : Nat) : Int))) _
          rw [e1]
          exact q _ _ k1 b13 B3
    · refine ⟨_, rfl, rfl, _, rfl, ite2 (fun c2 => ?_) (fun c2 => ?_)⟩
      · refine ⟨_, rfl, b, 7, rfl, B2, by decide, by decide, fun f H3 hf b3 B3 => ?_⟩
        refine ⟨_, _, rfl, rfl, _, rfl, rfl, _, rfl, ite2 (fun c3 => ?_) (fun c3 => ?_)⟩
        · have c2 : V.int ((e : Nat) : Int) = V.int 2 := of_decide_eq_true c2
          have c2 : ((e : Nat) : Int) = 2 := V.int.inj c2
          have c3 : V.int ((e : Nat) : Int) = V.int 3 := of_decide_eq_true c3
          have c3 : ((e : Nat) : Int) = 3 := V.int.inj c3
          omega
        · refine ⟨_, rfl, ?_⟩
          show Q (V.int (14 + ((f : Nat) : Int))) _
          rw [show (14 + ((f : Nat) : Int)) = ((f + 14 : Nat) : Int) by omega]
          exact q _ _ (by omega) (b12.trans b3) B3
      · refine ⟨_, rfl, rfl, _, rfl, ite2 (fun c3 => ?_) (fun c3 => ?_)⟩
        · refine ⟨_, rfl, b, 44, rfl, B2, by decide, by decide, fun f H3 hf b3 B3 => ?_⟩
          refine ⟨_, _, rfl, rfl, _, rfl, ?_⟩
          show Q (V.int (21 + ((f : Nat) : Int))) _
          rw [show (21 + ((f : Nat) : Int)) = ((f + 21 : Nat) : Int) by omega]
          exact q _ _ (by omega) (b12.trans b3) B3
        · exact ⟨_, rfl, q _ _ (by omega) b12 B2⟩
end
end K4
end
section
namespace K4
open PySem L2
/-! ### in, ==, lists of lists -/
theorem inV_nat (x : Nat) : ∀ l : List Nat, inV (vN x) (vL l) = decide (x ∈ l)
  | [] => rfl
  | y :: l => by
    have ih := inV_nat x l
    unfold inV at ih ⊢
    show (eqV (vN y) (vN x) || (vL l).any _) = _
    rw [ih]
    have e : eqV (vN y) (vN x) = decide (x = y) := by
      show (((y : Nat) : Int) == ((x : Nat) : Int)) = _
      rw [Bool.eq_iff_iff]
      simp
      omega
    rw [e, ← Bool.decide_or]
    exact decide_eq_decide.mpr (by rw [List.mem_cons])
theorem flat_vL (l : List Nat) : (vL l).all flatV = true := by
  rw [List.all_eq_true]
  intro x hx
  obtain ⟨n, _, rfl⟩ := List.mem_map.mp hx
  rfl
abbrev dI (l : List Nat) : List PyData := l.map fun n : Nat => PyData.int ((n : Nat) : Int)
theorem dp_nat {K : PySem.W.Frag} {H : Hp} : ∀ l : List Nat, DpAll K H (vL l) (dI l)
  | [] => .nil
  | x :: l => .cons (.int _) (dp_nat l)
theorem eqv_dI (l m : List Nat) : PyData.eqvAll (dI l) (dI m) = decide (l = m) := by
  have h := PySem.W.ked_eqvAll (l.map fun n : Nat => ((n : Nat) : Int)) (m.map fun n : Nat => ((n : Nat) : Int))
  rw [List.map_map, List.map_map] at h
  refine h.trans (decide_eq_decide.mpr ⟨fun e => ?_, fun e => by rw [e]⟩)
  exact (List.map_inj_right fun x y z => by omega).mp e
theorem eqv_lI (l m : List Nat) : PyData.eqv (.list (dI l)) (.list (dI m)) = decide (l = m) := by
  rw [PyData.eqv]; exact eqv_dI l m
theorem eqv_tI (l m : List Nat) : PyData.eqv (.tuple (dI l)) (.tuple (dI m)) = decide (l = m) := by
  rw [PyData.eqv]; exact eqv_dI l m
theorem can_dI : ∀ l : List Nat, PyData.canLayAll0 (dI l) = true
  | [] => by simp [PyData.canLayAll0]
  | x :: l => by
    show PyData.canLayAll0 (PyData.int _ :: dI l) = true
    rw [PyData.canLayAll0, can_dI l]
    simp [PyData.canLay0]
theorem depth_dI : ∀ l : List Nat, PyData.depthAll (dI l) = 0
  | [] => by simp [PyData.depthAll]
  | x :: l => by
    show PyData.depthAll (PyData.int _ :: dI l) = 0
    rw [PyData.depthAll, depth_dI l]
    simp [PyData.depth]
theorem shaped_lI (l : List Nat) : SeqAt.shaped (.list (dI l)) = true := by
  unfold SeqAt.shaped
  rw [PyData.canLay0, PyData.depth, can_dI, depth_dI]
  rfl
theorem shaped_tI (l : List Nat) : SeqAt.shaped (.tuple (dI l)) = true := by
  unfold SeqAt.shaped
  rw [PyData.canLay0, PyData.depth, can_dI, depth_dI]
  rfl
/-- rows of numbers: each at its own place -/
structure Lsts (H : Hp) (rs : List Addr) (gs : List (List Nat)) : Prop where
  len : rs.length = gs.length
  at' : ∀ (i : Nat) (r : Addr) (g : List Nat), rs[i]? = some r → gs[i]? = some g → H r = some (.lst (vL g))
theorem Lsts.nil (H : Hp) : Lsts H [] [] := ⟨rfl, fun i r g h => by cases h⟩
theorem Lsts.mono {H H' : Hp} {rs : List Addr} {gs : List (List Nat)} (h : Lsts H rs gs) (k : ∀ r ∈ rs, ∀ o, H r = some o → H' r = some o) : Lsts H' rs gs :=
  ⟨h.len, fun i r g a b => k r (List.mem_of_getElem? a) _ (h.at' i r g a b)⟩
theorem Lsts.snoc {H : Hp} {rs : List Addr} {gs : List (List Nat)} (h : Lsts H rs gs) {r : Addr} {g : List Nat} (e : H r = some (.lst (vL g))) : Lsts H (rs ++ [r]) (gs ++ [g]) := by
  refine ⟨by rw [List.length_append, List.length_append, h.len]; rfl, fun i r' g' a b => ?_⟩
  rw [List.getElem?_append] at a b
  rw [← h.len] at b
  by_cases c : i < rs.length
  · rw [if_pos c] at a b
    exact h.at' i r' g' a b
  · rw [if_neg c] at a b
    rcases (show i - rs.length = 0 ∨ ∃ k, i - rs.length = k + 1 from by cases (i - rs.length) with | zero => exact .inl rfl | succ k => exact .inr ⟨k, rfl⟩) with z | z
    · rw [z] at a b
      cases a
      cases b
      exact e
    · obtain ⟨k, z⟩ := z
      rw [z] at a
      cases a
theorem Lsts.get {H : Hp} {rs : List Addr} {gs : List (List Nat)} (h : Lsts H rs gs) {i : Nat} {x : V} (e : (rs.map V.ref)[i]? = some x) : ∃ r g, x = .ref r ∧ r ∈ rs ∧ gs[i]? = some g ∧ H r = some (.lst (vL g)) := by
  rw [List.getElem?_map] at e
  cases q : rs[i]? with
  | none => rw [q] at e; cases e
  | some r =>
    rw [q] at e
    have hi : i < gs.length := by rw [← h.len]; exact (List.getElem?_eq_some_iff.mp q).1
    exact ⟨r, gs[i], (Option.some.inj e).symm, List.mem_of_getElem? q, by simp [hi], h.at' i r _ q (by simp [hi])⟩
theorem filter_succ (f : Nat → Bool) (i : Nat) : (List.range (i + 1)).filter f = (List.range i).filter f ++ (if f i = true then [i] else []) := by
  rw [List.range_succ, List.filter_append]
  cases h : f i <;> simp [h]
theorem vL_app (l : List Nat) (x : Nat) : vL l ++ [vN x] = vL (l ++ [x]) := by rw [vL, vL, List.map_append]; rfl
theorem map_cast (l : List Nat) : vL l = l.map vN := rfl
theorem getD_ext {l m : List Nat} (hl : l.length = m.length) (h : ∀ x, x < l.length → l.getD x 0 = m.getD x 0) : l = m := by
  refine List.ext_getElem hl fun i h1 h2 => ?_
  have := h i h1
  simpa [List.getD_eq_getElem?_getD, h1, h2] using this
theorem getD_set (l : List Nat) (i v x : Nat) (h : i < l.length) : (l.set i v).getD x 0 = if x = i then v else l.getD x 0 := by
  simp only [List.getD_eq_getElem?_getD, List.getElem?_set]
  by_cases c : i = x
  · subst c
    simp [h]
  · rw [if_neg c, if_neg (Ne.symm c)]
end K4
end
section
namespace K4
open PySem L2
section
variable {P : Program} {w : World} {K : PySem.W.Frag} {mg : Str → Option Value} {base : Heap} {a : Ad}
abbrev s_law_joined : Stmt := topS 39
abbrev N_law_joined : List Str := ["_law_shown", "_law_leader", "_law_k", "_law_low", "_law_high", "_law_at", "_law_found"]
theorem sc_law_joined : FnScope N_law_joined ["_law_shown"] (defScope s_law_joined) := ⟨rfl, rfl, rfl, by decide +kernel, rfl, by decide +kernel, by decide +kernel⟩
def spJoined (K : PySem.W.Frag) : Sp := fun vs H Q _ => ∃ (sa : Addr) (im : List Nat), vs = [.ref sa] ∧ SqL K H sa (vL im) ∧ Good im ∧ im.length ≤ 64 ∧
  ∀ H' p rs, H p = none → Same H H' → H' p = some (.lst (rs.map V.ref)) → (∀ r ∈ rs, H r = none) → Lsts H' rs (gps (labs im im.length)) → Q (.ref p) H'
theorem B_law_joined (T : Txt K mg a) : Binds K (a.fd 39) ["_law_shown"] [] := T.f_law_joined.binds fun _ _ _ _ _ _ us hl => match us, hl with | [_], _ => rfl
theorem ixN_nat {n j : Nat} (h : j < n) : ixN n ((j : Nat) : Int) = some j := by
  unfold ixN
  rw [if_pos (by omega), if_pos (by omega)]
  rfl
def gpsTo (L : List Nat) (n i : Nat) : List (List Nat) := ((List.range i).filter fun k => decide (L.getD k 0 = k)).map fun k => (List.range n).filter fun x => decide (L.getD x 0 = k)
theorem gpsTo_succ (L : List Nat) (n i : Nat) : gpsTo L n (i + 1) = gpsTo L n i ++ (if L.getD i 0 = i then [(List.range n).filter fun x => decide (L.getD x 0 = i)] else []) := by
  unfold gpsTo
  rw [filter_succ, List.map_append]
  by_cases c : L.getD i 0 = i
  · rw [if_pos c, if_pos (decide_eq_true c)]; rfl
  · rw [if_neg c, if_neg (by rw [decide_eq_false c]; exact Bool.false_ne_true)]; rfl
theorem int_eq {x y : Nat} (c : decide (V.int ((x : Nat) : Int) = V.int ((y : Nat) : Int)) = true) : x = y := by
  have := V.int.inj (of_decide_eq_true c)
  omega
theorem int_ne {x y : Nat} (c : ¬ decide (V.int ((x : Nat) : Int) = V.int ((y : Nat) : Int)) = true) : x ≠ y := fun e => c (by rw [e]; exact decide_eq_true rfl)
theorem max_cast (x y : Nat) : (if ((y : Nat) : Int) > ((x : Nat) : Int) then ((y : Nat) : Int) else ((x : Nat) : Int)) = ((max x y : Nat) : Int) := by split <;> omega
theorem min_cast (x y : Nat) : (if ((y : Nat) : Int) < ((x : Nat) : Int) then ((y : Nat) : Int) else ((x : Nat) : Int)) = ((min x y : Nat) : Int) := by split <;> omega
theorem G_law_joined (T : Txt K mg a) : FnOk P w K mg base CX0 1 (a.f 39) (a.fd 39) ["_law_shown"] (spJoined K) := by
  refine T.f_law_joined.ok sc_law_joined (fun vs H Q E h => ?_) (fun cdv A outer s H vs Q E hr h => ?_)
  · obtain ⟨_, _, rfl, _⟩ := h
    rfl
  · obtain ⟨sa, im, rfl, hS, good, hn, q⟩ := h
    refine ⟨_, (pss_cons (ps_set (i := 1) sc_law_joined.nd rfl (Or.inr rfl) (pe_listRg rfl rfl T.n_list (prg_1 rfl T.n_range (pe_callB call_len_seq (by rfl) T.n_len (by decide +kernel) (pa_cons (pv 0) pa_nil)))))
      (pss_cons (ps_for PassesOwn.never rfl (pi_range1 (by rfl) T.n_range (pa_cons (pe_callB call_len_seq (by rfl) T.n_len (by decide +kernel) (pa_cons (pv 0) pa_nil)) pa_nil)) (pg_name (i := 2) sc_law_joined.nd rfl (Or.inr rfl))
        (pss_cons (ps_set (i := 3) sc_law_joined.nd rfl (Or.inl rfl) (pe_callB (call_min2 rfl) (by rfl) T.n_min (by decide +kernel) (pa_cons (pe_ix ix_list (pv 1) (pv 2) (fun _ _ => rfl)) (pa_cons (pe_ix ix_list (pv 1) (pe_ix ix_list (pv 0) (pv 2) (fun _ _ => rfl)) (fun _ _ => rfl)) pa_nil))))
        (pss_cons (ps_set (i := 4) sc_law_joined.nd rfl (Or.inl rfl) (pe_callB (call_max2 rfl) (by rfl) T.n_max (by decide +kernel) (pa_cons (pe_ix ix_list (pv 1) (pv 2) (fun _ _ => rfl)) (pa_cons (pe_ix ix_list (pv 1) (pe_ix ix_list (pv 0) (pv 2) (fun _ _ => rfl)) (fun _ _ => rfl)) pa_nil))))
        (pss_one (ps_for PassesOwn.never rfl (pi_range1 (by rfl) T.n_range (pa_cons (pe_callB call_len_seq (by rfl) T.n_len (by decide +kernel) (pa_cons (pv 1) pa_nil)) pa_nil)) (pg_name (i := 5) sc_law_joined.nd rfl (Or.inl rfl))
          (pss_one (ps_if (pt_cmpR op_eq (pe_ix ix_list (pv 1) (pv 5) (fun _ _ => rfl)) (pv 4) (nomark _))
            (pss_one (ps_asg (pv 3) (pg_sub (pv 1) (pv 5) set_list)))
            pss_nil)))))))
      (pss_cons (ps_set (i := 6) sc_law_joined.nd rfl (Or.inl rfl) (pe_lst pa_nil))
      (pss_cons (ps_for PassesOwn.never rfl (pi_range1 (by rfl) T.n_range (pa_cons (pe_callB call_len_seq (by rfl) T.n_len (by decide +kernel) (pa_cons (pv 0) pa_nil)) pa_nil)) (pg_name (i := 2) sc_law_joined.nd rfl (Or.inr rfl))
        (pss_one (ps_if (pt_cmpR op_eq (pe_ix ix_list (pv 1) (pv 2) (fun _ _ => rfl)) (pv 2) (nomark _))
          (pss_one (ps_expr (pe_bm PySem.F.plainAttrs_list PySem.F.slot_list_append PySem.F.type_list_append mt_append (pv 6) (pa_cons (pe_lc (own := [("_law_at", 5)]) (g := gName 5) rfl sc_law_joined.nd (pi_range1 (by rfl) T.n_range (pa_cons (pe_callB call_len_seq (by rfl) T.n_len (by decide +kernel) (pa_cons (pv 0) pa_nil)) pa_nil)) (blkOk_by (own := [("_law_at", 5)]) (N := N_law_joined) (sc := defScope s_law_joined) (by decide +kernel)) (fun _ _ _ _ _ => pg_name (i := 5) sc_law_joined.nd rfl (Or.inl rfl)) (fun _ _ _ _ _ => (pts_one (pt_cmpR op_eq (pe_ix (r := rIxL K) ix_list (pv 1) (pv 5) (fun _ _ => rfl)) (pv 2) (nomark _)))) (fun _ _ _ _ _ => (pv 5))) pa_nil))))
          pss_nil)))
      (pss_one (ps_ret (pv 6))))))), ?_⟩
    have vl : (vL im).length = im.length := by rw [vL, List.length_map]
    refine ⟨_, rfl, _, _, rfl, .inl hS, _, rfl, by rw [vl]; exact RgOk.nat (by omega), fun p h0 => ?_⟩
    rw [vl, rgV_nat]
    refine ⟨_, rfl, _, _, rfl, .inl (Same.seq (same_new h0) hS), _, rfl, by omega, by omega, for_range (fun i σ H' => Same H H' ∧ H' p = some (.lst (vL (labs im i))) ∧ ∃ x1 x2 x3 x4, σ = [some (.ref sa), some (.ref p), x1, x2, x3, x4, none]) ⟨same_new h0, by rw [labs_zero]; exact upd_same, none, none, none, none, rfl⟩ ?_ ?_⟩
    · rintro i σ H2 hi ⟨s2, e2, x1, x2, x3, x4, rfl⟩
      have hi : i < im.length := by omega
      have hS2 := Same.seq s2 hS
      have ll := labs_len im i
      have gi := good_get good hi
      have aK : ∀ l : List Nat, i < l.length → atI (vL l) (0 + (i : Int)) = some (vN (l.getD i 0)) := fun l h => by rw [Int.zero_add]; exact vL_at h
      refine ⟨_, rfl, _, rfl, p, _, _, _, rfl, rfl, SqL.of e2, aK _ (by omega), _, rfl, _, rfl, _, rfl, sa, _, _, _, rfl, rfl, hS2, aK _ hi, p, _, _, _, rfl, rfl, SqL.of e2, vL_at (by omega), _, _, rfl, ?_⟩
      refine ⟨_, rfl, _, rfl, p, _, _, _, rfl, rfl, SqL.of e2, aK _ (by omega), _, rfl, _, rfl, _, rfl, sa, _, _, _, rfl, rfl, hS2, aK _ hi, p, _, _, _, rfl, rfl, SqL.of e2, vL_at (by omega), _, _, rfl, ?_⟩
      refine ⟨_, rfl, _, _, rfl, .inl (SqL.of e2), _, rfl, by rw [vL, List.length_map]; omega, by rw [vL, List.length_map]; omega, for_range (fun j σ H' => Same H H' ∧ ∃ M y, H' p = some (.lst (vL M)) ∧ M.length = im.length ∧ (∀ x, M.getD x 0 = if x < j then (labs im (i + 1)).getD x 0 else (labs im i).getD x 0) ∧
        σ = [some (.ref sa), some (.ref p), some (.int (0 + (i : Int))), some (.int (if (((labs im i).getD (im.getD i 0) 0 : Nat) : Int) < (((labs im i).getD i 0 : Nat) : Int) then (((labs im i).getD (im.getD i 0) 0 : Nat) : Int) else (((labs im i).getD i 0 : Nat) : Int))), some (.int (if (((labs im i).getD (im.getD i 0) 0 : Nat) : Int) > (((labs im i).getD i 0 : Nat) : Int) then (((labs im i).getD (im.getD i 0) 0 : Nat) : Int) else (((labs im i).getD i 0 : Nat) : Int))), y, none]) ⟨s2, labs im i, x4, e2, ll, fun x => by rw [if_neg (by omega)], rfl⟩ ?_ ?_⟩
      · rintro j σ H3 hj ⟨s3, M, y, e3, hM, hx, rfl⟩
        have hj : j < im.length := by rw [vL, List.length_map] at hj; omega
        have aJ : atI (vL M) (0 + (j : Int)) = some (vN (M.getD j 0)) := by rw [Int.zero_add]; exact vL_at (by omega)
        have mj : M.getD j 0 = (labs im i).getD j 0 := by rw [hx, if_neg (by omega)]
        have mg' : (labs im (i + 1)).getD j 0 = if (labs im i).getD j 0 = max ((labs im i).getD i 0) ((labs im i).getD (im.getD i 0) 0) then min ((labs im i).getD i 0) ((labs im i).getD (im.getD i 0) 0) else (labs im i).getD j 0 := by
          rw [labs_succ]
          exact merge_get (by omega)
        refine ⟨_, rfl, _, rfl, p, _, _, _, rfl, rfl, SqL.of e3, aJ, _, rfl, rfl, _, rfl, ite2 (fun c => ?_) (fun c => ?_)⟩
        · rw [max_cast] at c
          have c := int_eq c
          refine ⟨_, rfl, _, rfl, _, rfl, p, _, _, j, rfl, rfl, e3, by rw [Int.zero_add]; exact ixN_nat (by rw [vL, List.length_map]; omega), ?_⟩
          refine ⟨same_mut s3 h0, M.set j (min ((labs im i).getD i 0) ((labs im i).getD (im.getD i 0) 0)), _, ?_, by rw [List.length_set]; exact hM, fun x => ?_, rfl⟩
          · rw [upd_same, min_cast, vL, vL, List.map_set]
          · rw [getD_set _ _ _ _ (by omega), hx]
            by_cases d : x = j
            · subst d
              rw [if_pos rfl, if_pos (by omega), mg', ← mj, if_pos c]
            · rw [if_neg d]
              by_cases d2 : x < j
              · rw [if_pos d2, if_pos (by omega)]
              · rw [if_neg d2, if_neg (by omega)]
        · rw [max_cast] at c
          have c := int_ne c
          refine ⟨s3, M, _, e3, hM, fun x => ?_, rfl⟩
          rw [hx]
          by_cases d : x = j
          · subst d
            rw [if_neg (by omega), if_pos (by omega), mg', ← mj, if_neg c]
          · by_cases d2 : x < j
            · rw [if_pos d2, if_pos (by omega)]
            · rw [if_neg d2, if_neg (by omega)]
      · rintro σ H3 ⟨s3, M, y, e3, hM, hx, rfl⟩
        rw [vL, List.length_map, ll] at hx
        have : M = labs im (i + 1) := getD_ext (by rw [hM, labs_len]) fun x h => by rw [hx, if_pos (by omega)]
        subst this
        exact ⟨s3, e3, _, _, _, _, rfl⟩
    · rintro σ H2 ⟨s2, e2, x1, x2, x3, x4, rfl⟩
      have en : ((vL im).length : Int).toNat = im.length := by rw [vl]; omega
      rw [en] at e2
      generalize hL : labs im im.length = L at e2 q
      have hLl : L.length = im.length := by rw [← hL, labs_len]
      refine ⟨by decide, fun f hf => ?_⟩
      have nf : p ≠ f := ne_of_none e2 hf
      have hf0 : H f = none := s2.free hf
      refine ⟨_, rfl, _, _, rfl, .inl (Same.seq (s2.trans (same_new hf)) hS), _, rfl, by rw [vl]; omega, by rw [vl]; omega, for_range (fun i σ H' => Same H H' ∧ H' p = some (.lst (vL L)) ∧ ∃ rs y, H' f = some (.lst (rs.map V.ref)) ∧ (∀ r ∈ rs, H r = none ∧ r ≠ f) ∧ Lsts H' rs (gpsTo L im.length i) ∧
        σ = [some (.ref sa), some (.ref p), y, x2, x3, x4, some (.ref f)]) ⟨s2.trans (same_new hf), by rw [upd_ne nf]; exact e2, [], x1, upd_same, (fun r h => by cases h), Lsts.nil _, rfl⟩ ?_ ?_⟩
      · rintro i σ H3 hi ⟨s3, e3, rs, y, f3, hr3, hL3, rfl⟩
        have hi : i < im.length := by rw [vl] at hi; omega
        have aK : atI (vL L) (0 + (i : Int)) = some (vN (L.getD i 0)) := by rw [Int.zero_add]; exact vL_at (by omega)
        refine ⟨_, rfl, _, rfl, p, _, _, _, rfl, rfl, SqL.of e3, aK, _, rfl, rfl, _, rfl, ite2 (fun c => ?_) (fun c => ?_)⟩
        · rw [Int.zero_add] at c
          have c := int_eq c
          refine ⟨_, rfl, .inl ⟨rfl, _, SqL.of f3⟩, _, rfl, _, _, rfl, .inl (Same.seq s3 hS), _, rfl, by rw [vl]; omega, by rw [vl]; omega, fun D hD => lc_range (lo := 0) (fun j H' => Same H3 H' ∧ H' D = some (.lst (vL ((List.range j).filter fun x => decide (L.getD x 0 = i))))) ⟨same_new hD, upd_same⟩ ?_ ?_⟩
          · rintro j H4 hj ⟨s4, e4⟩
            have hj : j < im.length := by rw [vl] at hj; omega
            have aJ : atI (vL L) (0 + (j : Int)) = some (vN (L.getD j 0)) := by rw [Int.zero_add]; exact vL_at (by omega)
            refine ⟨rfl, _, rfl, _, rfl, p, _, _, _, rfl, rfl, SqL.of (s4 _ _ e3), aJ, _, rfl, rfl, _, rfl, ite2 (fun c => ?_) (fun c => ?_)⟩
            · rw [Int.zero_add] at c
              have c := int_eq c
              refine ⟨_, rfl, _, e4, ?_, same_mut s4 hD, ?_⟩
              · rw [vL, List.length_map]
                exact sz64' (Nat.le_trans (List.length_filter_le _ _) (by rw [List.length_range]; omega))
              · rw [upd_same, filter_succ, if_pos (decide_eq_true c), Int.zero_add, vL_app]
            · rw [Int.zero_add] at c
              have c := int_ne c
              refine ⟨s4, ?_⟩
              rw [filter_succ, if_neg (by rw [decide_eq_false c]; exact Bool.false_ne_true), List.append_nil]
              exact e4
          · rintro H4 ⟨s4, e4⟩
            rw [vl] at e4
            have nD : f ≠ D := ne_of_none f3 hD
            refine ⟨f, _, _, rfl, rfl, s4 _ _ f3, ?_, ?_⟩
            · rw [List.length_map, hL3.len]
              refine sz64' (Nat.le_trans ?_ (show im.length ≤ 100 by omega))
              unfold gpsTo
              rw [List.length_map]
              exact Nat.le_trans (List.length_filter_le _ _) (by rw [List.length_range]; omega)
            · refine ⟨same_mut (s3.trans s4) hf0, by rw [upd_ne nf]; exact s4 _ _ e3, rs ++ [D], _, by rw [upd_same, List.map_append]; rfl, fun r hr' => ?_, ?_, rfl⟩
              · rcases List.mem_append.mp hr' with z | z
                · exact hr3 r z
                · rw [List.mem_singleton.mp z]
                  exact ⟨s3.free hD, Ne.symm nD⟩
              · rw [gpsTo_succ, if_pos c]
                refine Lsts.snoc (hL3.mono fun r hr' o ho => ?_) ?_
                · rw [upd_ne (hr3 r hr').2]
                  exact s4 _ _ ho
                · rw [upd_ne (Ne.symm nD)]
                  exact e4
        · rw [Int.zero_add] at c
          have c := int_ne c
          refine ⟨s3, e3, rs, _, f3, hr3, ?_, rfl⟩
          rw [gpsTo_succ, if_neg c, List.append_nil]
          exact hL3
      · rintro σ H3 ⟨s3, e3, rs, y, f3, hr3, hL3, rfl⟩
        rw [vl] at hL3
        refine ⟨_, rfl, q H3 f rs hf0 s3 f3 (fun r h => (hr3 r h).1) ?_⟩
        unfold gps
        rw [hLl]
        exact hL3
end
end K4
end
section
namespace K4
open PySem L2
theorem rows_len {g : List Nat} : ∀ (j : Nat) (row : List Nat), row ∈ rowsTo g j → row.length = j
  | 0, row, h => by
    rw [List.mem_singleton.mp h]
    rfl
  | j + 1, row, h => by
    obtain ⟨r, hr, h2⟩ := List.mem_flatMap.mp h
    obtain ⟨x, _, rfl⟩ := List.mem_map.mp h2
    rw [List.length_append, rows_len j r hr]
    rfl
theorem longer_len (g : List Nat) : ∀ rows : List (List Nat), (longer g rows).length ≤ g.length * rows.length
  | [] => Nat.zero_le _
  | r :: rows => by
    have ih := longer_len g rows
    show (((g.filter fun a => decide (a ∉ r)).map fun a => r ++ [a]) ++ longer g rows).length ≤ _
    rw [List.length_append, List.length_map, List.length_cons, Nat.mul_succ, Nat.add_comm]
    exact Nat.add_le_add ih (List.length_filter_le _ _)
theorem rows_num {g : List Nat} (hg : g.length ≤ 4) : ∀ j : Nat, (rowsTo g j).length ≤ 4 ^ j
  | 0 => Nat.le_refl _
  | j + 1 => by
    have ih := rows_num hg j
    refine Nat.le_trans (longer_len g _) ?_
    rw [Nat.pow_succ, Nat.mul_comm]
    exact Nat.mul_le_mul ih hg
theorem longer_app (g : List Nat) (xs : List (List Nat)) (r : List Nat) : longer g (xs ++ [r]) = longer g xs ++ (g.filter fun a => decide (a ∉ r)).map fun a => r ++ [a] := by
  unfold longer
  rw [List.flatMap_append]
  simp
theorem take_succ' {α : Type} {l : List α} {i : Nat} {x : α} (h : l[i]? = some x) : l.take (i + 1) = l.take i ++ [x] := by
  rw [List.take_succ, h]
  rfl
theorem one_le (x : V) : [x].length ≤ sizeLine := by show 1 ≤ sizeLine; decide
theorem szB {n : Nat} (h : n ≤ 2000) : n < sizeLine := Nat.lt_of_le_of_lt h (by decide)
section
variable {P : Program} {w : World} {K : PySem.W.Frag} {mg : Str → Option Value} {base : Heap} {a : Ad}
abbrev s_law_orders : Stmt := topS 40
abbrev N_law_orders : List Str := ["_law_group", "_law_rows", "_law_k", "_law_longer", "_law_row", "_law_at"]
theorem sc_law_orders : FnScope N_law_orders ["_law_group"] (defScope s_law_orders) := ⟨rfl, rfl, rfl, by decide +kernel, rfl, by decide +kernel, by decide +kernel⟩
def spOrders (K : PySem.W.Frag) : Sp := fun vs H Q _ => ∃ (ga : Addr) (g : List Nat), vs = [.ref ga] ∧ SqL K H ga (vL g) ∧ g.length ≤ 4 ∧
  ∀ H' p rs, H p = none → Same H H' → H' p = some (.lst (rs.map V.ref)) → Lsts H' rs (rowsTo g g.length) → Q (.ref p) H'
theorem B_law_orders (T : Txt K mg a) : Binds K (a.fd 40) ["_law_group"] [] := T.f_law_orders.binds fun _ _ _ _ _ _ us hl => match us, hl with | [_], _ => rfl
theorem G_law_orders (T : Txt K mg a) : FnOk P w K mg base CX0 1 (a.f 40) (a.fd 40) ["_law_group"] (spOrders K) := by
  refine T.f_law_orders.ok sc_law_orders (fun vs H Q E h => ?_) (fun cdv A outer s H vs Q E hr h => ?_)
  · obtain ⟨_, _, rfl, _⟩ := h
    rfl
  · obtain ⟨ga, g, rfl, hS, hg, q⟩ := h
    refine ⟨_, (pss_cons (ps_set (i := 1) sc_law_orders.nd rfl (Or.inl rfl) (pe_lst (pa_cons (pe_lst pa_nil) pa_nil)))
      (pss_cons (ps_for PassesOwn.never rfl (pi_range1 (by rfl) T.n_range (pa_cons (pe_callB call_len_seq (by rfl) T.n_len (by decide +kernel) (pa_cons (pv 0) pa_nil)) pa_nil)) (pg_name (i := 2) sc_law_orders.nd rfl (Or.inl rfl))
        (pss_cons (ps_set (i := 3) sc_law_orders.nd rfl (Or.inl rfl) (pe_lst pa_nil))
        (pss_cons (ps_for PassesOwn.never rfl (pi_list (pv 1)) (pg_name (i := 4) sc_law_orders.nd rfl (Or.inl rfl))
          (pss_one (ps_for PassesOwn.never rfl (pi_list (pv 0)) (pg_name (i := 5) sc_law_orders.nd rfl (Or.inl rfl))
            (pss_one (ps_if (pt_cmpR op_notIn_seq (pv 5) (pv 4) (by rfl))
              (pss_one (ps_expr (pe_bm PySem.F.plainAttrs_list PySem.F.slot_list_append PySem.F.type_list_append mt_append (pv 3) (pa_cons (pe_op op_cat (pv 4) (pe_lst (pa_cons (pv 5) pa_nil))) pa_nil))))
              pss_nil)))))
        (pss_one (ps_set (i := 1) sc_law_orders.nd rfl (Or.inl rfl) (pv 3))))))
      (pss_one (ps_ret (pv 1))))), ?_⟩
    have vl : (vL g).length = g.length := by rw [vL, List.length_map]
    refine ⟨by decide, fun e0 h0 => ⟨one_le _, fun p0 h1 => ?_⟩⟩
    have s1 := (same_new h0).trans (same_new (o := .lst [V.ref e0]) h1)
    refine ⟨_, rfl, _, _, rfl, .inl (Same.seq s1 hS), _, rfl, by rw [vl]; omega, by rw [vl]; omega, for_range (fun i σ H' => Same H H' ∧ ∃ rp rs x1 x2 x3 x4, H' rp = some (.lst (rs.map V.ref)) ∧ H rp = none ∧ Lsts H' rs (rowsTo g i) ∧ σ = [some (.ref ga), some (.ref rp), x1, x2, x3, x4]) ⟨s1, p0, [e0], none, none, none, none, upd_same, (same_new h0).free h1, ?_, rfl⟩ ?_ ?_⟩
    · refine Lsts.snoc (Lsts.nil _) ?_
      exact (same_new h1) _ _ upd_same
    · rintro i σ H2 hi ⟨s2, rp, rs, x1, x2, x3, x4, e2, n2, hL, rfl⟩
      have hi : i < g.length := by rw [vl] at hi; omega
      have nrow : (rowsTo g i).length ≤ 256 := Nat.le_trans (rows_num hg i) (by
        have : i ≤ 3 := by omega
        exact Nat.le_trans (Nat.pow_le_pow_right (by decide) this) (by decide))
      refine ⟨by decide, fun lp hl => ?_⟩
      have n0 : rp ≠ lp := ne_of_none e2 hl
      refine ⟨_, rfl, rp, rfl, ⟨_, SqL.of (by rw [upd_ne n0]; exact e2)⟩, for_list (K := K) (xs := rs.map V.ref) (fun j σ H' => Same H2 H' ∧ ∃ ls y1 y2, H' lp = some (.lst (ls.map V.ref)) ∧ (∀ r ∈ ls, H2 r = none ∧ r ≠ lp) ∧ Lsts H' ls (longer g ((rowsTo g i).take j)) ∧ σ = [some (.ref ga), some (.ref rp), some (.int (0 + (i : Int))), some (.ref lp), y1, y2]) ⟨same_new hl, [], x3, x4, upd_same, (fun r h => by cases h), Lsts.nil _, rfl⟩ (fun j σ H' _ z => SqL.of (z.1 _ _ e2)) ?_ ?_⟩
      · rintro j xv σ H3 hj ⟨s3, ls, y1, y2, l3, hl3, hL3, rfl⟩
        obtain ⟨r, row, rfl, hrm, hrow, er⟩ := hL.get hj
        have hrl := rows_len i row (List.mem_of_getElem? hrow)
        have hjl : j < (rowsTo g i).length := (List.getElem?_eq_some_iff.mp hrow).1
        refine ⟨_, rfl, ga, rfl, ⟨_, Same.seq (s2.trans s3) hS⟩, for_list (K := K) (xs := vL g) (fun k σ H' => Same H2 H' ∧ ∃ ls y2, H' lp = some (.lst (ls.map V.ref)) ∧ (∀ r ∈ ls, H2 r = none ∧ r ≠ lp) ∧ Lsts H' ls (longer g ((rowsTo g i).take j) ++ ((g.take k).filter fun a => decide (a ∉ row)).map fun a => row ++ [a]) ∧ σ = [some (.ref ga), some (.ref rp), some (.int (0 + (i : Int))), some (.ref lp), some (.ref r), y2]) ⟨s3, ls, y2, l3, hl3, by rw [List.take_zero]; simpa using hL3, rfl⟩ (fun k σ H' _ z => Same.seq (s2.trans z.1) hS) ?_ ?_⟩
        · rintro k yv σ H4 hk ⟨s4, ls, y2, l4, hl4, hL4, rfl⟩
          have hk2 : k < g.length := by
            have := (List.getElem?_eq_some_iff.mp hk).1
            rwa [vl] at this
          obtain ⟨m, hm, rfl⟩ : ∃ m, g[k]? = some m ∧ yv = vN m := by
            rw [vL, List.getElem?_map] at hk
            cases e : g[k]? with
            | none => rw [e] at hk; cases hk
            | some z => rw [e] at hk; exact ⟨z, rfl, (Option.some.inj hk).symm⟩
          have tk := take_succ' hm
          refine ⟨_, rfl, _, rfl, r, vL row, rfl, .inl (SqL.of (s4 _ _ er)), rfl, flat_vL _, _, rfl, ite2 (fun c => ?_) (fun c => ?_)⟩
          · have c : (!inV (vN m) (vL row)) = true := c
            rw [inV_nat] at c
            have c : m ∉ row := by simpa using c
            refine ⟨_, rfl, .inl ⟨rfl, _, SqL.of l4⟩, _, rfl, _, rfl, one_le _, fun q1 hq1 => ?_⟩
            have er4 := s4 _ _ er
            have nr1 : r ≠ q1 := ne_of_none er4 hq1
            refine ⟨r, q1, _, _, rfl, rfl, (by rw [upd_ne nr1]; exact er4), upd_same, ?_, fun q2 hq2 => ?_⟩
            · rw [vL, List.length_map, hrl]
              exact Nat.le_of_lt (szB (show i + 1 ≤ 2000 by omega))
            have sA := same_new (o := .lst [vN m]) hq1
            have sB := same_new (o := .lst (vL row ++ [vN m])) hq2
            have sAB := sA.trans sB
            have f2 : H4 q2 = none := sA.free hq2
            have nl2 : lp ≠ q2 := ne_of_none l4 f2
            refine ⟨lp, _, _, rfl, rfl, sAB _ _ l4, ?_, ?_⟩
            · rw [List.length_map, hL4.len, List.length_append, List.length_map]
              refine szB ?_
              have b1 := longer_len g ((rowsTo g i).take j)
              have b2 : ((rowsTo g i).take j).length ≤ 256 := Nat.le_trans (by rw [List.length_take]; exact Nat.min_le_right _ _) nrow
              have b3 : ((g.take k).filter fun a => decide (a ∉ row)).length ≤ g.length := Nat.le_trans (List.length_filter_le _ _) (by rw [List.length_take]; exact Nat.min_le_right _ _)
              have b4 := Nat.mul_le_mul hg b2
              omega
            · refine ⟨fun b o h => ?_, ls ++ [q2], _, by rw [upd_same, List.map_append]; rfl, fun r' hr' => ?_, ?_, rfl⟩
              · rw [upd_ne (ne_of_none h hl)]
                exact sAB _ _ (s4 _ _ h)
              · rcases List.mem_append.mp hr' with z | z
                · exact hl4 r' z
                · rw [List.mem_singleton.mp z]
                  exact ⟨s4.free f2, Ne.symm nl2⟩
              · rw [tk, List.filter_append, List.map_append, ← List.append_assoc]
                have : (List.filter (fun a => decide (a ∉ row)) [m]).map (fun a => row ++ [a]) = [row ++ [m]] := by simp [c]
                rw [this]
                refine Lsts.snoc (hL4.mono fun r' hr' o ho => ?_) ?_
                · rw [upd_ne (hl4 r' hr').2]
                  exact sAB _ _ ho
                · rw [upd_ne (Ne.symm nl2), upd_same, vL_app]
          · have c : ¬ (!inV (vN m) (vL row)) = true := c
            rw [inV_nat] at c
            have c : m ∈ row := by simpa using c
            refine ⟨s4, ls, _, l4, hl4, ?_, rfl⟩
            rw [tk, List.filter_append, List.map_append]
            have : (List.filter (fun a => decide (a ∉ row)) [m]).map (fun a => row ++ [a]) = [] := by simp [c]
            rw [this, List.append_nil]
            exact hL4
        · rintro σ H4 ⟨s4, ls, y2, l4, hl4, hL4, rfl⟩
          refine ⟨s4, ls, _, _, l4, hl4, ?_, rfl⟩
          rw [take_succ' hrow, longer_app]
          rw [vl, List.take_length] at hL4
          exact hL4
      · rintro σ H3 ⟨s3, ls, y1, y2, l3, hl3, hL3, rfl⟩
        refine ⟨_, rfl, s2.trans s3, lp, ls, _, _, _, _, l3, s2.free hl, ?_, rfl⟩
        rw [List.length_map, hL.len, List.take_length] at hL3
        exact hL3
    · rintro σ H2 ⟨s2, rp, rs, x1, x2, x3, x4, e2, n2, hL, rfl⟩
      rw [vl] at hL
      exact ⟨_, rfl, q H2 rp rs n2 s2 e2 hL⟩
end
end K4
end
section
namespace K4
open PySem L2
theorem sameT {K : PySem.W.Frag} {H H' : Hp} {a : Addr} {xs : List V} (e : Same H H') (h : SqT K H a xs) : SqT K H' a xs := by
  rcases h with (h | ⟨o, h⟩) | h
  · exact .inl (.inl (e _ _ h))
  · exact .inl (.inr ⟨o, e _ _ h⟩)
  · exact .inr h
/-! ### comprehensions over rows of numbers -/
theorem vL_take (l : List Nat) {j : Nat} {x : V} (h : (vL l)[j]? = some x) : ∃ m, x = vN m ∧ m ∈ l ∧ j < l.length ∧ l.take (j + 1) = l.take j ++ [m] := by
  rw [vL, List.getElem?_map] at h
  cases e : l[j]? with
  | none => rw [e] at h; cases h
  | some m =>
    rw [e] at h
    exact ⟨m, (Option.some.inj h).symm, List.mem_of_getElem? e, (List.getElem?_eq_some_iff.mp e).1, take_succ' e⟩
section
variable {K : PySem.W.Frag} {a : Addr} {l : List Nat} {f : Nat → Nat} {p : Nat → Bool} {i : Nat} {tt : TT} {te : TE} {vs : List Nat} {σ : St} {H1 : Hp} {D : Addr} {Qd : Hp → Prop}
theorem lc_stepN {xs : List Nat} {j : Nat} {m : Nat} {H : Hp} (hz : xs.length ≤ 2000) (hD : H1 D = none) (hj : j < xs.length) (tk : xs.take (j + 1) = xs.take j ++ [m])
    (ht : ∀ H' Q, Same H1 H' → Q (p m) H' → tt σ H' Q) (he : p m = true → ∀ H' Q, Same H1 H' → Q (vN (f m)) H' → te σ H' Q) (s : Same H1 H) (e : H D = some (.lst (vL (((xs.take j).filter p).map f)))) :
    tt σ H fun b H3 => if b = true then te σ H3 fun y H4 => ∃ acc, H4 D = some (.lst acc) ∧ acc.length < sizeLine ∧ (Same H1 (upd H4 D (.lst (acc ++ [y]))) ∧ (upd H4 D (.lst (acc ++ [y]))) D = some (.lst (vL (((xs.take (j + 1)).filter p).map f)))) else (Same H1 H3 ∧ H3 D = some (.lst (vL (((xs.take (j + 1)).filter p).map f)))) := by
  refine ht _ _ s ?_
  cases hp : p m with
  | true =>
    refine iteT (he hp _ _ s ⟨_, e, ?_, same_mut s hD, ?_⟩)
    · rw [vL, List.length_map, List.length_map]
      refine szB (Nat.le_trans (List.length_filter_le _ _) ?_)
      rw [List.length_take]
      omega
    · rw [upd_same, vL_app, tk, List.filter_append, List.map_append]
      simp [hp]
  | false =>
    refine iteF ⟨s, ?_⟩
    rw [tk, List.filter_append, List.map_append]
    simp [hp, e]
theorem lc_natL (hD : H1 D = none) (hS : SqL K H1 a (vL l)) (hz : l.length ≤ 2000) (hw : ∀ x, wipe ((wipe σ vs).set i (some x)) vs = wipe σ vs)
    (ht : ∀ m ∈ l, ∀ H' Q, Same H1 H' → Q (p m) H' → tt ((wipe σ vs).set i (some (vN m))) H' Q) (he : ∀ m ∈ l, p m = true → ∀ H' Q, Same H1 H' → Q (vN (f m)) H' → te ((wipe σ vs).set i (some (vN m))) H' Q)
    (hd : ∀ H', Same H1 H' → H' D = some (.lst (vL ((l.filter p).map f))) → Qd H') :
    ∃ W : Nat → Nat → Hp → Prop, (∃ m, W 0 m (upd H1 D (.lst []))) ∧ ∀ i2 m H, W i2 m H →
      ((Itl K a).stop i2 H ∧ Qd H) ∨ ((Itl K a).go i2 H ∧ ∃ Nx : Hp → Prop, (∀ H', Nx H' → ∃ m', m' < m ∧ W (i2 + 1) m' H') ∧ ∀ x H', (Itl K a).yld i2 H x H' → gName i x (wipe σ vs) H' fun σ2 H2 => wipe σ2 vs = wipe σ vs ∧ tt σ2 H2 fun b H3 =>
        if b = true then te σ2 H3 fun y H4 => ∃ acc, H4 D = some (.lst acc) ∧ acc.length < sizeLine ∧ Nx (upd H4 D (.lst (acc ++ [y]))) else Nx H3) := by
  refine lc_list (K := K) (a := a) (xs := vL l) (fun j H' => Same H1 H' ∧ H' D = some (.lst (vL (((l.take j).filter p).map f)))) ⟨same_new hD, by rw [List.take_zero]; exact upd_same⟩ (fun j H' _ z => Same.seq z.1 hS) ?_ ?_
  · rintro j x H hx ⟨s, e⟩
    obtain ⟨m, rfl, hm, hj, tk⟩ := vL_take l hx
    exact ⟨hw _, lc_stepN hz hD hj tk (ht m hm) (he m hm) s e⟩
  · rintro H ⟨s, e⟩
    rw [vL, List.length_map, List.take_length] at e
    exact hd _ s e
theorem lc_natT (hD : H1 D = none) (hS : SqT K H1 a (vL l)) (hz : l.length ≤ 2000) (hw : ∀ x, wipe ((wipe σ vs).set i (some x)) vs = wipe σ vs)
    (ht : ∀ m ∈ l, ∀ H' Q, Same H1 H' → Q (p m) H' → tt ((wipe σ vs).set i (some (vN m))) H' Q) (he : ∀ m ∈ l, p m = true → ∀ H' Q, Same H1 H' → Q (vN (f m)) H' → te ((wipe σ vs).set i (some (vN m))) H' Q)
    (hd : ∀ H', Same H1 H' → H' D = some (.lst (vL ((l.filter p).map f))) → Qd H') :
    ∃ W : Nat → Nat → Hp → Prop, (∃ m, W 0 m (upd H1 D (.lst []))) ∧ ∀ i2 m H, W i2 m H →
      ((Itt K a).stop i2 H ∧ Qd H) ∨ ((Itt K a).go i2 H ∧ ∃ Nx : Hp → Prop, (∀ H', Nx H' → ∃ m', m' < m ∧ W (i2 + 1) m' H') ∧ ∀ x H', (Itt K a).yld i2 H x H' → gName i x (wipe σ vs) H' fun σ2 H2 => wipe σ2 vs = wipe σ vs ∧ tt σ2 H2 fun b H3 =>
        if b = true then te σ2 H3 fun y H4 => ∃ acc, H4 D = some (.lst acc) ∧ acc.length < sizeLine ∧ Nx (upd H4 D (.lst (acc ++ [y]))) else Nx H3) := by
  refine lc_tup (K := K) (a := a) (xs := vL l) (fun j H' => Same H1 H' ∧ H' D = some (.lst (vL (((l.take j).filter p).map f)))) ⟨same_new hD, by rw [List.take_zero]; exact upd_same⟩ (fun j H' _ z => sameT z.1 hS) ?_ ?_
  · rintro j x H hx ⟨s, e⟩
    obtain ⟨m, rfl, hm, hj, tk⟩ := vL_take l hx
    exact ⟨hw _, lc_stepN hz hD hj tk (ht m hm) (he m hm) s e⟩
  · rintro H ⟨s, e⟩
    rw [vL, List.length_map, List.take_length] at e
    exact hd _ s e
end
abbrev rLenS (K : PySem.W.Frag) : List V → Hp → VK → Prop := fun xs H Q => ∃ (p : Addr) (ys : List V), xs = [.ref p] ∧ (SqL K H p ys ∨ SqT K H p ys) ∧ Q (.int ys.length) H
section
variable {K : PySem.W.Frag} {a : Addr} {l : List Nat} {f : Nat → Nat} {i : Nat} {te : TE} {vs : List Nat} {σ : St} {H1 : Hp} {D : Addr} {Qd : Hp → Prop}
/-- the element may make new objects -/
theorem lc_newL (hD : H1 D = none) (hS : SqL K H1 a (vL l)) (hz : l.length ≤ 2000) (hw : ∀ x, wipe ((wipe σ vs).set i (some x)) vs = wipe σ vs)
    (he : ∀ m ∈ l, ∀ H' Q, Same H1 H' → (∀ H5, Same H' H5 → Q (vN (f m)) H5) → te ((wipe σ vs).set i (some (vN m))) H' Q)
    (hd : ∀ H', Same H1 H' → H' D = some (.lst (vL (l.map f))) → Qd H') :
    ∃ W : Nat → Nat → Hp → Prop, (∃ m, W 0 m (upd H1 D (.lst []))) ∧ ∀ i2 m H, W i2 m H →
      ((Itl K a).stop i2 H ∧ Qd H) ∨ ((Itl K a).go i2 H ∧ ∃ Nx : Hp → Prop, (∀ H', Nx H' → ∃ m', m' < m ∧ W (i2 + 1) m' H') ∧ ∀ x H', (Itl K a).yld i2 H x H' → gName i x (wipe σ vs) H' fun σ2 H2 => wipe σ2 vs = wipe σ vs ∧ tYes σ2 H2 fun b H3 =>
        if b = true then te σ2 H3 fun y H4 => ∃ acc, H4 D = some (.lst acc) ∧ acc.length < sizeLine ∧ Nx (upd H4 D (.lst (acc ++ [y]))) else Nx H3) := by
  refine lc_list (K := K) (a := a) (xs := vL l) (fun j H' => Same H1 H' ∧ H' D = some (.lst (vL ((l.take j).map f)))) ⟨same_new hD, by rw [List.take_zero]; exact upd_same⟩ (fun j H' _ z => Same.seq z.1 hS) ?_ ?_
  · rintro j x H hx ⟨s, e⟩
    obtain ⟨m, rfl, hm, hj, tk⟩ := vL_take l hx
    refine ⟨hw _, he m hm _ _ s fun H5 s5 => ⟨_, s5 _ _ e, ?_, same_mut (s.trans s5) hD, ?_⟩⟩
    · rw [vL, List.length_map, List.length_map, List.length_take]
      exact szB (by omega)
    · rw [upd_same, vL_app, tk, List.map_append]
      rfl
  · rintro H ⟨s, e⟩
    rw [vL, List.length_map, List.take_length] at e
    exact hd _ s e
end
theorem ints_vL (l : List Nat) : vL l = (l.map fun n : Nat => (n : Int)).map V.int := by
  rw [List.map_map]
  rfl
theorem rep_zero (n : Nat) : (List.replicate n [V.int 0]).flatten = vL (List.replicate n 0) := by
  induction n with
  | zero => rfl
  | succ n ih => rw [List.replicate_succ, List.flatten_cons, ih, List.replicate_succ]; rfl
theorem But.seq {K : PySem.W.Frag} {H H' : Hp} {b c : Addr} {xs : List V} (x : But b H H') (hc : c ≠ b) (h : Rd H c (.lst xs)) : Rd H' c (.lst xs) := by
  rcases h with h | ⟨o, h⟩
  · exact .inl (x _ _ hc h)
  · exact .inr ⟨o, x _ _ hc h⟩
end K4
end
section
namespace K4
open PySem L2
theorem rows_sub {g : List Nat} : ∀ (j : Nat) (row : List Nat), row ∈ rowsTo g j → ∀ x ∈ row, x ∈ g
  | 0, row, h, x, hx => by
    rw [List.mem_singleton.mp h] at hx
    cases hx
  | j + 1, row, h, x, hx => by
    obtain ⟨r, hr, h2⟩ := List.mem_flatMap.mp h
    obtain ⟨y, hy, rfl⟩ := List.mem_map.mp h2
    rcases List.mem_append.mp hx with z | z
    · exact rows_sub j r hr x z
    · rw [List.mem_singleton.mp z]
      exact (List.mem_filter.mp hy).1
theorem filter_true {l : List Nat} : l.filter (fun _ => true) = l := List.filter_eq_self.mpr fun _ _ => rfl
theorem shp_lt : ∀ k, k < 8 → ∀ x ∈ shp.getD k [], x < (shp.getD k []).length := by decide +kernel
theorem shp_get {k : Nat} (h : k < 8) : shp[k]? = some (shp.getD k []) := by
  have : k < shp.length := h
  simp [List.getD_eq_getElem?_getD, this]
theorem shp_mem {k : Nat} (h : k < 8) : shp.getD k [] ∈ shp := List.mem_of_getElem? (shp_get h)
theorem shp_small : ∀ k, k < 8 → (shp.getD k []).length ≤ 4 := by decide +kernel
theorem any_take {α : Type} {l : List α} {p : α → Bool} {j : Nat} {x : α} (h : l[j]? = some x) : (l.take (j + 1)).any p = ((l.take j).any p || p x) := by
  rw [take_succ' h, List.any_append]
  simp
section
variable {P : Program} {w : World} {K : PySem.W.Frag} {mg : Str → Option Value} {base : Heap} {a : Ad}
abbrev s_law_has_form : Stmt := topS 41
abbrev N_law_has_form : List Str := ["_law_shown", "_law_group", "_law_row", "_law_which", "_law_form", "_law_at", "_law_k"]
theorem sc_law_has_form : FnScope N_law_has_form ["_law_shown", "_law_group"] (defScope s_law_has_form) := ⟨rfl, rfl, rfl, by decide +kernel, rfl, by decide +kernel, by decide +kernel⟩
def spHasForm (K : PySem.W.Frag) : Sp := fun vs H Q _ => ∃ (sa ga : Addr) (im g : List Nat), vs = [.ref sa, .ref ga] ∧ SqL K H sa (vL im) ∧ SqL K H ga (vL g) ∧ (∀ x ∈ g, x < im.length) ∧ im.length ≤ 64 ∧
  ∀ H', Same H H' → Q (.bl (hasForm im g)) H'
theorem B_law_has_form (T : Txt K mg a) : Binds K (a.fd 41) ["_law_shown", "_law_group"] [] := T.f_law_has_form.binds fun _ _ _ _ _ _ us hl => match us, hl with | [_, _], _ => rfl
theorem G_law_has_form (T : Txt K mg a) : FnOk P w K mg base CX0 2 (a.f 41) (a.fd 41) ["_law_shown", "_law_group"] (spHasForm K) := by
  refine T.f_law_has_form.ok sc_law_has_form (fun vs H Q E h => ?_) (fun cdv A outer s H vs Q E hr h => ?_)
  · obtain ⟨_, _, _, _, rfl, _⟩ := h
    rfl
  · obtain ⟨sa, ga, im, g, rfl, hS, hG, hlt, hn, q⟩ := h
    refine ⟨_, (pss_cons (ps_if (pt_cmpR op_gt (pe_callB call_len_seq (by rfl) T.n_len (by decide +kernel) (pa_cons (pv 1) pa_nil)) pe_int (nomark _))
        (pss_one (ps_ret pe_bl))
        pss_nil)
      (pss_cons (ps_for PassesOwn.never rfl (pi_list (pe_call (G_law_orders T) (hr.mono (by decide)) rfl T.m_law_orders T.f_law_orders.kp (B_law_orders T) .nil pass0 (pa_cons (pv 1) pa_nil))) (pg_name (i := 2) sc_law_has_form.nd rfl (Or.inr rfl))
        (pss_one (ps_for PassesOwn.never rfl (pi_range1 (by rfl) T.n_range (pa_cons pe_int pa_nil)) (pg_name (i := 3) sc_law_has_form.nd rfl (Or.inl rfl))
          (pss_cons (ps_set (i := 4) sc_law_has_form.nd rfl (Or.inl rfl) (pe_call (G_law_pattern T) (hr.mono (by decide)) rfl T.m_law_pattern T.f_law_pattern.kp (B_law_pattern T) .nil pass0 (pa_cons (pv 3) pa_nil)))
          (pss_one (ps_if (pt_cmpR op_eq (pe_callB call_len_seq (by rfl) T.n_len (by decide +kernel) (pa_cons (pv 4) pa_nil)) (pe_callB call_len_seq (by rfl) T.n_len (by decide +kernel) (pa_cons (pv 2) pa_nil)) (nomark _))
            (pss_one (ps_if (pt_cmpR (op_eqD hr.units) (pe_lc (own := [("_law_at", 5)]) (g := gName 5) rfl sc_law_has_form.nd (pi_list (pv 2)) (blkOk_by (own := [("_law_at", 5)]) (N := N_law_has_form) (sc := defScope s_law_has_form) (by decide +kernel)) (fun _ _ _ _ _ => pg_name (i := 5) sc_law_has_form.nd rfl (Or.inl rfl)) (fun _ _ _ _ _ => pts_nil) (fun _ _ _ _ _ => (pe_ix (r := rIxL K) ix_list (pv 0) (pv 5) (fun _ _ => rfl)))) (pe_lc (own := [("_law_k", 6)]) (g := gName 6) rfl sc_law_has_form.nd (pi_tup (pv 4)) (blkOk_by (own := [("_law_k", 6)]) (N := N_law_has_form) (sc := defScope s_law_has_form) (by decide +kernel)) (fun _ _ _ _ _ => pg_name (i := 6) sc_law_has_form.nd rfl (Or.inl rfl)) (fun _ _ _ _ _ => pts_nil) (fun _ _ _ _ _ => (pe_ix (r := rIxL K) ix_list (pv 2) (pv 6) (fun _ _ => rfl)))) (nomark _))
              (pss_one (ps_ret pe_bl))
              pss_nil))
            pss_nil))))))
      (pss_one (ps_ret pe_bl)))), ?_⟩
    have vl : (vL g).length = g.length := by rw [vL, List.length_map]
    refine ⟨_, rfl, _, _, rfl, .inl hG, _, _, rfl, rfl, _, rfl, ite2 (fun c => ?_) (fun c => ?_)⟩
    · have c : (4 : Int) < ((vL g).length : Int) := of_decide_eq_true c
      rw [vl] at c
      have := q H (Same.refl _)
      unfold hasForm at this
      rw [decide_eq_false (by omega), Bool.false_and] at this
      exact this
    · have c : ¬ (4 : Int) < ((vL g).length : Int) := fun z => c (decide_eq_true z)
      rw [vl] at c
      have hg : g.length ≤ 4 := by omega
      refine ⟨_, rfl, ga, g, rfl, hG, hg, fun H1 p rs hp s1 e1 hL => ?_⟩
      refine ⟨p, rfl, ⟨_, SqL.of e1⟩, for_list (K := K) (xs := rs.map V.ref) (fun j σ H' => Same H1 H' ∧ ((rowsTo g g.length).take j).any (fun row => shp.any fun f => fits im row f) = false ∧ ∃ x1 x2 x3, σ = [some (.ref sa), some (.ref ga), x1, x2, x3, none, none]) ⟨Same.refl _, by rw [List.take_zero]; rfl, none, none, none, rfl⟩ (fun j σ H' _ z => SqL.of (z.1 _ _ e1)) ?_ ?_⟩
      · rintro j xv σ H2 hj ⟨s2, ha, x1, x2, x3, rfl⟩
        obtain ⟨r, row, rfl, hrm, hrow, er⟩ := hL.get hj
        have hrl := rows_len g.length row (List.mem_of_getElem? hrow)
        have hrs := rows_sub g.length row (List.mem_of_getElem? hrow)
        have er2 := s2 _ _ er
        refine ⟨_, rfl, by decide, by decide, for_range (fun k σ H' => Same H2 H' ∧ (shp.take k).any (fun f => fits im row f) = false ∧ ∃ x2 x3, σ = [some (.ref sa), some (.ref ga), some (.ref r), x2, x3, none, none]) ⟨Same.refl _, by rw [List.take_zero]; rfl, x2, x3, rfl⟩ ?_ ?_⟩
        · rintro k σ H3 hk ⟨s3, hb, x2, x3, rfl⟩
          have hk : k < 8 := hk
          have vf : (vL (shp.getD k [])).length = (shp.getD k []).length := by rw [vL, List.length_map]
          have vr : (vL row).length = row.length := by rw [vL, List.length_map]
          refine ⟨_, rfl, k, (by rw [Int.zero_add]; rfl), hk, fun H5 fp hfp s5 e5 => ?_⟩
          have er5 := s5 _ _ (s3 _ _ er2)
          have s15 := (s2.trans s3).trans s5
          refine ⟨_, rfl, _, _, rfl, .inr (SqT.of e5), _, rfl, _, _, rfl, .inl (SqL.of er5), rfl, _, rfl, ite2 (fun c => ?_) (fun c => ?_)⟩
          · rw [vf, vr] at c
            have c := int_eq c
            refine ⟨_, rfl, r, rfl, ⟨_, SqL.of er5⟩, fun D hD => lc_natL (K := K) (l := row) (f := fun m => im.getD m 0) (p := fun _ => true) hD (SqL.of er5) (by omega) (fun _ => rfl) (fun m hm H' Q' _ z => z) (fun m hm _ H' Q' s' z => ?_) fun H6 s6 e6 => ?_⟩
            · exact ⟨_, rfl, _, rfl, sa, _, _, _, rfl, rfl, Same.seq ((s1.trans s15).trans s') hS, vL_at (hlt _ (hrs _ hm)), z⟩
            · rw [filter_true] at e6
              have e56 := s6 _ _ e5
              have er6 := s6 _ _ er5
              refine ⟨_, rfl, fp, rfl, ⟨_, SqT.of e56⟩, fun D2 hD2 => lc_natT (K := K) (l := shp.getD k []) (f := fun m => row.getD m 0) (p := fun _ => true) hD2 (SqT.of e56) (by have := shp_small k hk; omega) (fun _ => rfl) (fun m hm H' Q' _ z => z) (fun m hm _ H' Q' s' z => ?_) fun H7 s7 e7 => ?_⟩
              · have := shp_lt k hk m hm
                exact ⟨_, rfl, _, rfl, r, _, _, _, rfl, rfl, SqL.of (s' _ _ er6), vL_at (by omega), z⟩
              · rw [filter_true] at e7
                have e67 := s7 _ _ e6
                have s17 := (s15.trans s6).trans s7
                refine ⟨_, _, .lst (SqL.of e67) (dp_nat _), .lst (SqL.of e7) (dp_nat _), shaped_lI _, shaped_lI _, _, rfl, ite2 (fun d => ?_) (fun d => ?_)⟩
                · rw [eqv_lI] at d
                  have d := of_decide_eq_true d
                  have : hasForm im g = true := by
                    unfold hasForm
                    rw [decide_eq_true hg, Bool.true_and, List.any_eq_true]
                    refine ⟨row, List.mem_of_getElem? hrow, ?_⟩
                    rw [List.any_eq_true]
                    refine ⟨_, shp_mem hk, ?_⟩
                    unfold fits
                    rw [decide_eq_true c, Bool.true_and]
                    exact decide_eq_true d
                  have qq := q H7 (s1.trans s17)
                  rw [this] at qq
                  exact qq
                · rw [eqv_lI] at d
                  refine ⟨((s3.trans s5).trans s6).trans s7, ?_, _, _, rfl⟩
                  rw [any_take (shp_get hk), hb, Bool.false_or]
                  unfold fits
                  rw [decide_eq_false (fun z => d (decide_eq_true z)), Bool.and_false]
          · rw [vf, vr] at c
            have c := int_ne c
            refine ⟨s3.trans s5, ?_, _, _, rfl⟩
            rw [any_take (shp_get hk), hb, Bool.false_or]
            unfold fits
            rw [decide_eq_false c, Bool.false_and]
        · rintro σ H3 ⟨s3, hb, x2, x3, rfl⟩
          refine ⟨s2.trans s3, ?_, _, _, _, rfl⟩
          rw [any_take hrow, ha, Bool.false_or]
          exact hb
      · rintro σ H2 ⟨s2, ha, x1, x2, x3, rfl⟩
        rw [List.length_map, hL.len, List.take_length] at ha
        have qq := q H2 (s1.trans s2)
        have : hasForm im g = false := by
          unfold hasForm
          rw [ha, Bool.and_false]
        rw [this] at qq
        exact qq
end
end K4
end
section
namespace K4
open PySem L2
/-! ### rows of keys -/
def Tups (H H' : Hp) : Prop := ∀ b xs, H b = some (.tup xs) → H' b = some (.tup xs)
theorem Tups.of {H H' : Hp} (s : Same H H') : Tups H H' := fun b xs h => s b _ h
theorem Tups.trans {H H1 H2 : Hp} (x : Tups H H1) (y : Tups H1 H2) : Tups H H2 := fun b xs h => y b xs (x b xs h)
theorem Tups.set {H : Hp} {p : Addr} {l : List V} {o : HO} (h : H p = some (.lst l)) : Tups H (upd H p o) := fun b xs hb => by
  have : b ≠ p := fun e => by rw [e, h] at hb; cases hb
  rw [upd_ne this]
  exact hb
structure KyAt (H : Hp) (r : Addr) (k : Ky) : Prop where
  ex : ∃ t1 t2 : Addr, H r = some (.tup [vN k.1, .ref t1, .ref t2]) ∧ H t1 = some (.tup (vL k.2.1)) ∧ H t2 = some (.tup (vL k.2.2))
theorem KyAt.mono {H H' : Hp} {r : Addr} {k : Ky} (h : KyAt H r k) (t : Tups H H') : KyAt H' r k := by
  obtain ⟨t1, t2, e, e1, e2⟩ := h.ex
  exact ⟨t1, t2, t _ _ e, t _ _ e1, t _ _ e2⟩
inductive Kys (H : Hp) : List Addr → List Ky → Prop
  | nil : Kys H [] []
  | cons {r : Addr} {k : Ky} {rs : List Addr} {ks : List Ky} : KyAt H r k → Kys H rs ks → Kys H (r :: rs) (k :: ks)
theorem Kys.mono {H H' : Hp} (t : Tups H H') : ∀ {rs : List Addr} {ks : List Ky}, Kys H rs ks → Kys H' rs ks
  | _, _, .nil => .nil
  | _, _, .cons h r => .cons (h.mono t) (r.mono t)
theorem Kys.snoc {H : Hp} : ∀ {rs : List Addr} {ks : List Ky} {r : Addr} {k : Ky}, Kys H rs ks → KyAt H r k → Kys H (rs ++ [r]) (ks ++ [k])
  | _, _, _, _, .nil, e => .cons e .nil
  | _, _, _, _, .cons h t, e => .cons h (t.snoc e)
theorem Kys.len {H : Hp} : ∀ {rs : List Addr} {ks : List Ky}, Kys H rs ks → rs.length = ks.length
  | _, _, .nil => rfl
  | _, _, .cons _ t => congrArg (· + 1) t.len
theorem gps_lt {L g : List Nat} (h : g ∈ gps L) : ∀ x ∈ g, x < L.length := by
  unfold gps at h
  obtain ⟨k, _, rfl⟩ := List.mem_map.mp h
  intro x hx
  exact List.mem_range.mp (List.mem_filter.mp hx).1
theorem gps_len (L : List Nat) : (gps L).length ≤ L.length := by
  unfold gps
  rw [List.length_map]
  exact Nat.le_trans (List.length_filter_le _ _) (by rw [List.length_range]; exact Nat.le_refl _)
theorem gps_mem_len {L g : List Nat} (h : g ∈ gps L) : g.length ≤ L.length := by
  unfold gps at h
  obtain ⟨k, _, rfl⟩ := List.mem_map.mp h
  exact Nat.le_trans (List.length_filter_le _ _) (by rw [List.length_range]; exact Nat.le_refl _)
section
variable {P : Program} {w : World} {K : PySem.W.Frag} {mg : Str → Option Value} {base : Heap} {a : Ad}
abbrev s_law_keys : Stmt := topS 42
abbrev N_law_keys : List Str := ["_law_shown", "_law_size_here", "_law_at", "_law_keys_here", "_law_group"]
theorem sc_law_keys : FnScope N_law_keys ["_law_shown", "_law_size_here"] (defScope s_law_keys) := ⟨rfl, rfl, rfl, by decide +kernel, rfl, by decide +kernel, by decide +kernel⟩
def spKeys (K : PySem.W.Frag) : Sp := fun vs H Q _ => ∃ (sa : Addr) (im : List Nat), vs = [.ref sa, vN im.length] ∧ H sa = some (.lst (vL im)) ∧ Good im ∧ im.length ≤ 64 ∧ (∀ g ∈ gps (labs im im.length), hasForm im g = true) ∧
  ∀ H' p rs, H p = none → Same H H' → H' p = some (.lst (rs.map V.ref)) → Kys H' rs (keysOf im) → Q (.ref p) H'
theorem B_law_keys (T : Txt K mg a) : Binds K (a.fd 42) ["_law_shown", "_law_size_here"] [] := T.f_law_keys.binds fun _ _ _ _ _ _ us hl => match us, hl with | [_, _], _ => rfl
theorem G_law_keys (T : Txt K mg a) : FnOk P w K mg base CX0 3 (a.f 42) (a.fd 42) ["_law_shown", "_law_size_here"] (spKeys K) := by
  refine T.f_law_keys.ok sc_law_keys (fun vs H Q E h => ?_) (fun cdv A outer s H vs Q E hr h => ?_)
  · obtain ⟨_, _, rfl, _⟩ := h
    rfl
  · obtain ⟨sa, im, rfl, hS, good, hn, hF, q⟩ := h
    refine ⟨_, (pss_cons (ps_if (PW.pt (pw_or (pt_not (pt_val (pe_callB call_isi (by rfl) T.n_isinstance (by decide +kernel) (pa_cons (pv 0) (pa_cons (pe_bltn (v := V.ty "list") (by rfl) T.n_list (by decide +kernel) rfl) pa_nil))))) (pw_or1 (pt_cmpR op_ne (pe_callB call_len_seq (by rfl) T.n_len (by decide +kernel) (pa_cons (pv 0) pa_nil)) (pv 1) (nomark _)))))
        (pss_one (ps_ret pe_non))
        pss_nil)
      (pss_cons (ps_for PassesOwn.never rfl (pi_list (pv 0)) (pg_name (i := 2) sc_law_keys.nd rfl (Or.inl rfl))
        (pss_one (ps_if (PW.pt (pw_or (pt_not (pt_val (pe_callB call_isi (by rfl) T.n_isinstance (by decide +kernel) (pa_cons (pv 2) (pa_cons (pe_bltn (v := V.ty "int") (by rfl) T.n_int (by decide +kernel) rfl) pa_nil))))) (pw_or (pt_val (pe_callB call_isi (by rfl) T.n_isinstance (by decide +kernel) (pa_cons (pv 2) (pa_cons (pe_bltn (v := V.ty "bool") (by rfl) T.n_bool (by decide +kernel) rfl) pa_nil)))) (pw_or (pt_cmpR op_lt (pv 2) pe_int (nomark _)) (pw_or1 (pt_cmpR op_ge (pv 2) (pv 1) (nomark _)))))))
          (pss_one (ps_ret pe_non))
          pss_nil)))
      (pss_cons (ps_set (i := 3) sc_law_keys.nd rfl (Or.inl rfl) (pe_lst pa_nil))
      (pss_cons (ps_for PassesOwn.never rfl (pi_list (pe_call (G_law_joined T) (hr.mono (by decide)) rfl T.m_law_joined T.f_law_joined.kp (B_law_joined T) .nil pass0 (pa_cons (pv 0) pa_nil))) (pg_name (i := 4) sc_law_keys.nd rfl (Or.inl rfl))
        (pss_cons (ps_if (pt_not (pt_val (pe_call (G_law_has_form T) (hr.mono (by decide)) rfl T.m_law_has_form T.f_law_has_form.kp (B_law_has_form T) .nil pass0 (pa_cons (pv 0) (pa_cons (pv 4) pa_nil)))))
          (pss_one (ps_ret pe_non))
          pss_nil)
        (pss_one (ps_expr (pe_bm PySem.F.plainAttrs_list PySem.F.slot_list_append PySem.F.type_list_append mt_append (pv 3) (pa_cons (pe_tup (pa_cons (pe_callB call_len_seq (by rfl) T.n_len (by decide +kernel) (pa_cons (pv 4) pa_nil)) (pa_cons (pe_callTy call_tuple_of (by rfl) T.n_tuple (by decide +kernel) (pa_cons (pv 4) pa_nil)) (pa_cons (pe_callTy call_tuple_of (by rfl) T.n_tuple (by decide +kernel) (pa_cons (pe_lc (own := [("_law_at", 2)]) (g := gName 2) rfl sc_law_keys.nd (pi_list (pv 4)) (blkOk_by (own := [("_law_at", 2)]) (N := N_law_keys) (sc := defScope s_law_keys) (by decide +kernel)) (fun _ _ _ _ _ => pg_name (i := 2) sc_law_keys.nd rfl (Or.inl rfl)) (fun _ _ _ _ _ => pts_nil) (fun _ _ _ _ _ => (pe_ix (r := rIxL K) ix_list (pv 0) (pv 2) (fun _ _ => rfl)))) pa_nil)) pa_nil)))) pa_nil))))))
      (pss_one (ps_ret (pv 3))))))), ?_⟩
    have vl : (vL im).length = im.length := by rw [vL, List.length_map]
    refine ⟨_, rfl, _, _, _, _, true, rfl, .ty _, .base (.lst hS), kit_ty (by decide +kernel), true, rfl, iteF ?_⟩
    refine ⟨_, rfl, _, _, rfl, .inl (SqL.of hS), _, rfl, rfl, _, rfl, ite2 (fun c => ?_) (fun c => ?_)⟩
    · rw [vl] at c
      simp at c
    · refine ⟨_, rfl, sa, rfl, ⟨_, SqL.of hS⟩, for_list (K := K) (xs := vL im) (fun j σ H' => H' = H ∧ ∃ x, σ = [some (.ref sa), some (vN im.length), x, none, none]) ⟨rfl, none, rfl⟩ (fun j σ H' _ z => by rw [z.1]; exact SqL.of hS) ?_ ?_⟩
      · rintro j xv σ H2 hj ⟨rfl, x, rfl⟩
        obtain ⟨m, rfl, hm, _, _⟩ := vL_take im hj
        have hml := good m hm
        refine ⟨_, rfl, _, _, _, _, true, rfl, .ty _, .base (.int _), kit_ty (by decide +kernel), true, rfl, iteF ?_⟩
        refine ⟨_, rfl, _, _, _, _, false, rfl, .ty _, .base (.int _), kit_ty (by decide +kernel), false, rfl, iteF ?_⟩
        refine ⟨_, rfl, _, _, rfl, rfl, _, rfl, ite2 (fun c => ?_) (fun c => ?_)⟩
        · have c : ((m : Nat) : Int) < 0 := of_decide_eq_true c
          omega
        · refine ⟨_, rfl, _, rfl, _, _, rfl, rfl, _, rfl, ite2 (fun c => ?_) (fun c => ⟨rfl, _, rfl⟩)⟩
          have c : ((im.length : Nat) : Int) ≤ ((m : Nat) : Int) := of_decide_eq_true c
          omega
      · rintro σ H2 ⟨rfl, x, rfl⟩
        refine ⟨by decide, fun kp hkp => ?_⟩
        have hS1 := (same_new (o := .lst []) hkp) _ _ hS
        refine ⟨_, rfl, sa, im, rfl, SqL.of hS1, good, hn, fun H1 p rs hp s1 e1 hrs hL => ?_⟩
        have hS2 := s1 _ _ hS1
        have k1 := s1 _ _ (upd_same (H := H2) (a := kp) (o := .lst []))
        have nsk : sa ≠ kp := ne_of_none hS hkp
        have npk : p ≠ kp := fun e => by rw [e, upd_same] at hp; cases hp
        generalize hgs : gps (labs im im.length) = gs at hL hF
        have hglt : ∀ g ∈ gs, ∀ x ∈ g, x < im.length := fun g hg x hx => by
          have := gps_lt (hgs ▸ hg) x hx
          rwa [labs_len] at this
        have hgl : ∀ g ∈ gs, g.length ≤ im.length := fun g hg => by
          have := gps_mem_len (hgs ▸ hg)
          rwa [labs_len] at this
        have hgn : gs.length ≤ im.length := by
          rw [← hgs]
          have := gps_len (labs im im.length)
          rwa [labs_len] at this
        refine ⟨p, rfl, ⟨_, SqL.of e1⟩, for_list (K := K) (xs := rs.map V.ref) (fun j σ H' => But kp H1 H' ∧ ∃ ks x y, H' kp = some (.lst (ks.map V.ref)) ∧ Kys H' ks ((gs.take j).map fun g => (g.length, g, g.map fun r => im.getD r 0)) ∧ σ = [some (.ref sa), some (vN im.length), x, some (.ref kp), y]) ⟨But.refl _ _, [], _, _, k1, by rw [List.take_zero]; exact .nil, rfl⟩ (fun j σ H' _ z => SqL.of (z.1 _ _ npk e1)) ?_ ?_⟩
        · rintro j xv σ H3 hj ⟨b3, ks, x2, y2, k3, hK, rfl⟩
          obtain ⟨r, g, rfl, hrm, hg, er⟩ := hL.get hj
          have gm := List.mem_of_getElem? hg
          have nrk : r ≠ kp := fun e => by
            have := hrs r hrm
            rw [e, upd_same] at this
            cases this
          have er3 := b3 _ _ nrk er
          have hS3 := b3 _ _ nsk hS2
          have hjl : j < gs.length := (List.getElem?_eq_some_iff.mp hg).1
          refine ⟨_, rfl, _, rfl, sa, r, im, g, rfl, SqL.of hS3, SqL.of er3, hglt g gm, hn, fun H4 s4 => ⟨_, rfl, ite2 (fun c => ?_) (fun c => ?_)⟩⟩
          · rw [hF g gm] at c
            cases c
          · have er4 := s4 _ _ er3
            have hS4 := s4 _ _ hS3
            have k4 := s4 _ _ k3
            refine ⟨_, rfl, .inl ⟨rfl, _, SqL.of k4⟩, _, rfl, _, _, rfl, .inl (SqL.of er4), _, rfl, r, _, rfl, .inl ⟨SqL.of er4, fun t1 ht1 => ?_⟩⟩
            have sA := same_new (o := .tup (vL g)) ht1
            refine ⟨_, rfl, r, rfl, ⟨_, SqL.of (sA _ _ er4)⟩, fun D hD => lc_natL (K := K) (l := g) (f := fun m => im.getD m 0) (p := fun _ => true) hD (SqL.of (sA _ _ er4)) (by have := hgl g gm; omega) (fun _ => rfl) (fun m hm H' Q' _ z => z) (fun m hm _ H' Q' s' z => ?_) fun H5 s5 e5 => ?_⟩
            · exact ⟨_, rfl, _, rfl, sa, _, _, _, rfl, rfl, SqL.of (s' _ _ (sA _ _ hS4)), vL_at (hglt g gm m hm), z⟩
            · rw [filter_true] at e5
              refine ⟨D, _, rfl, .inl ⟨SqL.of e5, fun t2 ht2 => ⟨(by show 3 ≤ sizeLine; decide), fun q1 hq1 => ?_⟩⟩⟩
              have f1 := s5 _ _ (sA _ _ k4)
              have sB := same_new (o := .tup (vL (g.map fun r => im.getD r 0))) ht2
              have sC := same_new (o := .tup [V.int ((vL g).length : Int), .ref t1, .ref t2]) hq1
              have sBC := sB.trans sC
              have sAll := ((sA.trans s5).trans sBC)
              refine ⟨kp, _, _, rfl, rfl, sBC _ _ f1, ?_, ?_⟩
              · rw [List.length_map, hK.len, List.length_map, List.length_take]
                exact szB (by omega)
              · have tt := Tups.set (o := .lst (ks.map V.ref ++ [.ref q1])) (sBC _ _ f1)
                refine ⟨fun c o hc h => ?_, ks ++ [q1], _, _, by rw [upd_same, List.map_append]; rfl, ?_, rfl⟩
                · rw [upd_ne hc]
                  exact sAll _ _ (s4 _ _ (b3 _ _ hc h))
                · rw [take_succ' hg, List.map_append]
                  refine Kys.snoc (hK.mono (((Tups.of s4).trans (Tups.of sAll)).trans tt)) ⟨t1, t2, tt _ _ ?_, tt _ _ ?_, tt _ _ ?_⟩
                  · have : (vL g).length = g.length := by rw [vL, List.length_map]
                    rw [upd_same, this]
                  · exact sBC _ _ (s5 _ _ upd_same)
                  · exact sC _ _ upd_same
        · rintro σ H3 ⟨b3, ks, x2, y2, k3, hK, rfl⟩
          rw [List.length_map, hL.len, List.take_length] at hK
          refine ⟨_, rfl, q H3 kp ks hkp (fun b o h => b3 _ _ (ne_of_none h hkp) (s1 _ _ (same_new hkp _ _ h))) k3 ?_⟩
          unfold keysOf
          rw [hgs]
          exact hK
end
end K4
end
section
namespace K4
open PySem L2
section
variable {P : Program} {w : World} {K : PySem.W.Frag} {mg : Str → Option Value} {base : Heap} {a : Ad}
abbrev s_law_built : Stmt := topS 36
abbrev N_law_built : List Str := ["_law_bag_here", "_law_chosen", "_law_k", "_law_order_here", "_law_shown", "_law_used", "_law_which", "_law_form"]
theorem sc_law_built : FnScope N_law_built ["_law_bag_here"] (defScope s_law_built) := ⟨rfl, rfl, rfl, by decide +kernel, rfl, by decide +kernel, by decide +kernel⟩
def spBuilt : Sp := fun vs H Q _ => ∃ b : Addr, vs = [.ref b] ∧ BagAt H b ∧
  ∀ H' p im ps, H p = none → But b H H' → BagAt H' b → H' p = some (.lst (vL im)) → im.length ≤ 64 → Val (List.range im.length) ps → IsImg im.length ps im → Q (.ref p) H'
theorem B_law_built (T : Txt K mg a) : Binds K (a.fd 36) ["_law_bag_here"] [] := T.f_law_built.binds fun _ _ _ _ _ _ us hl => match us, hl with | [_], _ => rfl
theorem lens_le : ∀ cs : List Nat, (∀ c ∈ cs, c < 8) → lens cs ≤ 4 * cs.length
  | [], _ => Nat.zero_le _
  | c :: cs, h => by
    have := lens_le cs fun x hx => h x (List.mem_cons_of_mem _ hx)
    have := shp_small c (h c List.mem_cons_self)
    rw [lens_cons, List.length_cons]
    unfold fm
    omega
theorem lens_take {cs : List Nat} {j c : Nat} (h : cs[j]? = some c) : lens (cs.take (j + 1)) = lens (cs.take j) + (fm c).length := by
  rw [take_succ' h]
  simp [lens]
theorem lens_mono (cs : List Nat) (j : Nat) : lens (cs.take j) ≤ lens cs := by
  have e : lens cs = lens (cs.take j ++ cs.drop j) := congrArg lens (List.take_append_drop j cs).symm
  rw [e, lens, lens, List.map_append, List.sum_append]
  exact Nat.le_add_right _ _
theorem G_law_built (T : Txt K mg a) : FnOk P w K mg base CX0 4 (a.f 36) (a.fd 36) ["_law_bag_here"] spBuilt := by
  refine T.f_law_built.ok sc_law_built (fun vs H Q E h => ?_) (fun cdv A outer s H vs Q E hr h => ?_)
  · obtain ⟨_, rfl, _⟩ := h
    rfl
  · obtain ⟨b, rfl, hB, q⟩ := h
    refine ⟨_, (pss_cons (ps_set (i := 1) sc_law_built.nd rfl (Or.inl rfl) (pe_lst pa_nil))
      (pss_cons (ps_for PassesOwn.never rfl (pi_range1 (by rfl) T.n_range (pa_cons (pe_call (G_law_take T) (hr.mono (by decide)) rfl T.m_law_take T.f_law_take.kp (B_law_take T) .nil pass0 (pa_cons (pv 0) (pa_cons pe_int pa_nil))) pa_nil)) (pg_name (i := 2) sc_law_built.nd rfl (Or.inl rfl))
        (pss_one (ps_expr (pe_bm PySem.F.plainAttrs_list PySem.F.slot_list_append PySem.F.type_list_append mt_append (pv 1) (pa_cons (pe_call (G_law_take T) (hr.mono (by decide)) rfl T.m_law_take T.f_law_take.kp (B_law_take T) .nil pass0 (pa_cons (pv 0) (pa_cons pe_int pa_nil))) pa_nil)))))
      (pss_cons (ps_set (i := 3) sc_law_built.nd rfl (Or.inl rfl) (pe_call (G_law_order T) (hr.mono (by decide)) rfl T.m_law_order T.f_law_order.kp (B_law_order T) .nil pass0 (pa_cons (pv 0) (pa_cons (pe_callB (cr_sum rfl) (by rfl) T.n_sum (by decide +kernel) (pa_cons (pe_lc (own := [("_law_which", 6)]) (g := gName 6) rfl sc_law_built.nd (pi_list (pv 1)) (blkOk_by (own := [("_law_which", 6)]) (N := N_law_built) (sc := defScope s_law_built) (by decide +kernel)) (fun _ _ _ _ _ => pg_name (i := 6) sc_law_built.nd rfl (Or.inl rfl)) (fun _ _ _ _ _ => pts_nil) (fun _ _ _ _ _ => (pe_callB (r := rLenS K) call_len_seq (by rfl) T.n_len (by decide +kernel) (pa_cons (pe_call (G_law_pattern T) (hr.mono (by decide)) rfl T.m_law_pattern T.f_law_pattern.kp (B_law_pattern T) .nil pass0 (pa_cons (pv 6) pa_nil)) pa_nil)))) pa_nil)) pa_nil))))
      (pss_cons (ps_set (i := 4) sc_law_built.nd rfl (Or.inl rfl) (pe_op op_rep (pe_lst (pa_cons pe_int pa_nil)) (pe_callB call_len_seq (by rfl) T.n_len (by decide +kernel) (pa_cons (pv 3) pa_nil))))
      (pss_cons (ps_set (i := 5) sc_law_built.nd rfl (Or.inl rfl) pe_int)
      (pss_cons (ps_for PassesOwn.never rfl (pi_list (pv 1)) (pg_name (i := 6) sc_law_built.nd rfl (Or.inl rfl))
        (pss_cons (ps_set (i := 7) sc_law_built.nd rfl (Or.inl rfl) (pe_call (G_law_pattern T) (hr.mono (by decide)) rfl T.m_law_pattern T.f_law_pattern.kp (B_law_pattern T) .nil pass0 (pa_cons (pv 6) pa_nil)))
        (pss_cons (ps_for PassesOwn.never rfl (pi_range1 (by rfl) T.n_range (pa_cons (pe_callB call_len_seq (by rfl) T.n_len (by decide +kernel) (pa_cons (pv 7) pa_nil)) pa_nil)) (pg_name (i := 2) sc_law_built.nd rfl (Or.inl rfl))
          (pss_one (ps_asg (pe_ix ix_list (pv 3) (pe_op op_add (pv 5) (pe_ix ix_tup (pv 7) (pv 2) (fun _ _ => rfl))) (fun _ _ => rfl)) (pg_sub (pv 4) (pe_ix ix_list (pv 3) (pe_op op_add (pv 5) (pv 2)) (fun _ _ => rfl)) set_list))))
        (pss_one (ps_set (i := 5) sc_law_built.nd rfl (Or.inl rfl) (pe_op op_add (pv 5) (pe_callB call_len_seq (by rfl) T.n_len (by decide +kernel) (pa_cons (pv 7) pa_nil))))))))
      (pss_one (ps_ret (pv 4))))))))), ?_⟩
    have hB0 := hB
    obtain ⟨g, f, s0, hb, hw⟩ := hB0
    refine ⟨by decide, fun cp hcp => ?_⟩
    have nbc : b ≠ cp := ne_of_none hb hcp
    have B0 : BagAt (upd H cp (.lst [])) b := ⟨g, f, s0, by rw [upd_ne nbc]; exact hb, hw⟩
    refine ⟨_, rfl, b, 4, rfl, B0, by decide, by decide, fun d H1 hd b1 B1 => ?_⟩
    have c1 := b1 _ _ (Ne.symm nbc) (upd_same (H := H) (a := cp) (o := .lst []))
    refine ⟨_, rfl, by omega, by omega, for_range (fun i σ H' => But b H H' ∧ BagAt H' b ∧ ∃ cs x, H' cp = some (.lst (vL cs)) ∧ cs.length = i ∧ (∀ c ∈ cs, c < 8) ∧ σ = [some (.ref b), some (.ref cp), x, none, none, none, none, none]) ⟨fun c o hc h => b1 _ _ hc (same_new hcp _ _ h), B1, [], none, c1, rfl, (fun c h => by cases h), rfl⟩ ?_ ?_⟩
    · rintro i σ H2 hi ⟨b2, B2, cs, x, c2, hl, h8, rfl⟩
      have hi : i < d := by omega
      refine ⟨_, rfl, .inl ⟨rfl, _, SqL.of c2⟩, _, rfl, b, 8, rfl, B2, by decide, by decide, fun e H3 he b3 B3 => ?_⟩
      have c3 := b3 _ _ (Ne.symm nbc) c2
      refine ⟨cp, _, _, rfl, rfl, c3, by rw [vL, List.length_map]; exact sz64' (by omega), ?_, ?_, cs ++ [e], _, by rw [upd_same, vL_app], by rw [List.length_append, hl]; rfl, ?_, rfl⟩
      · intro c o hc h
        rw [upd_ne (ne_of_none h hcp)]
        exact b3 _ _ hc (b2 _ _ hc h)
      · obtain ⟨g, f, s0, hb3, hw⟩ := B3
        exact ⟨g, f, s0, by rw [upd_ne nbc]; exact hb3, hw⟩
      · intro c hc
        rcases List.mem_append.mp hc with z | z
        · exact h8 c z
        · rw [List.mem_singleton.mp z]; exact he
    · rintro σ H2 ⟨b2, B2, cs, x, c2, hl, h8, rfl⟩
      have hcl : cs.length ≤ 3 := by omega
      have hln := lens_le cs h8
      have B2' := B2
      obtain ⟨g2, f2, s2, hb2, _⟩ := B2'
      refine ⟨_, rfl, _, rfl, cp, rfl, ⟨_, SqL.of c2⟩, fun D hD => lc_newL (K := K) (l := cs) (f := fun c => (fm c).length) hD (SqL.of c2) (by omega) (fun _ => rfl) (fun m hm H' Q' s' z => ?_) fun H3 s3 e3 => ?_⟩
      · refine ⟨_, rfl, m, rfl, h8 m hm, fun H5 fp hfp s5 e5 => ⟨_, _, rfl, .inr (SqT.of e5), ?_⟩⟩
        have := z H5 s5
        rw [show (vL (shp.getD m [])).length = (fm m).length by rw [vL, List.length_map]; rfl]
        exact this
      · rw [ints_vL] at e3
        refine ⟨D, _, rfl, SqL.of e3, b, lens cs, ?_, ⟨g2, f2, s2, s3 _ _ hb2, ‹_›⟩, by omega, fun H4 op ord hop b4 B4 hp e4 => ?_⟩
        · rw [sum_cast]
          rfl
        have c4 := b4 _ _ (Ne.symm nbc) (s3 _ _ c2)
        have ol : ord.length = lens cs := by rw [hp.length_eq, List.length_range]
        have onod : ord.Nodup := hp.nodup_iff.mpr (range_nodup _)
        have ovl : (vL ord).length = lens cs := by rw [vL, List.length_map, ol]
        have olt : ∀ t, t < lens cs → ord.getD t 0 < lens cs := fun t ht => List.mem_range.mp (hp.mem_iff.mp (getD_mem (by omega)))
        have no_b : op ≠ b := fun e => by rw [e, s3 _ _ hb2] at hop; cases hop
        refine ⟨one_le _, fun zp hzp => ?_⟩
        have sZ := same_new (o := .lst [V.int 0]) hzp
        refine ⟨_, rfl, _, _, rfl, .inl (SqL.of (sZ _ _ e4)), zp, _, _, rfl, rfl, upd_same, by omega, by rw [ovl]; omega, ?_, fun sp hsp => ?_⟩
        · rw [ovl]
          show 1 * ((lens cs : Nat) : Int).toNat ≤ sizeLine
          rw [Nat.one_mul, Int.toNat_natCast]
          exact sz64 (by omega)
        rw [ovl, Int.toNat_natCast, rep_zero]
        have hsp4 : H4 sp = none := sZ.free hsp
        have s4 : Same H4 (upd (upd H4 zp (.lst [V.int 0])) sp (.lst (vL (List.replicate (lens cs) 0)))) := sZ.trans (same_new hsp)
        generalize hH6 : upd (upd H4 zp (.lst [V.int 0])) sp (.lst (vL (List.replicate (lens cs) 0))) = H6 at s4
        have e6 : H6 sp = some (.lst (vL (List.replicate (lens cs) 0))) := by rw [← hH6]; exact upd_same
        have c6 := s4 _ _ c4
        have o6 := s4 _ _ e4
        have ncs : cp ≠ sp := ne_of_none c4 hsp4
        have nos : op ≠ sp := ne_of_none e4 hsp4
        refine ⟨_, rfl, cp, rfl, ⟨_, SqL.of c6⟩, for_list (K := K) (xs := vL cs) (fun j σ H' => But sp H6 H' ∧ ∃ M x y z, H' sp = some (.lst (vL M)) ∧ M.length = lens cs ∧ (∀ t, t < lens (cs.take j) → M[ord.getD t 0]? = some (ord.getD ((tg cs).getD t 0) 0)) ∧
          σ = [some (.ref b), some (.ref cp), x, some (.ref op), some (.ref sp), some (vN (lens (cs.take j))), y, z]) ⟨But.refl _ _, List.replicate (lens cs) 0, _, none, none, e6, List.length_replicate, (fun t ht => absurd ht (Nat.not_lt_zero _)), rfl⟩ (fun j σ H' _ z => SqL.of (z.1 _ _ ncs c6)) ?_ ?_⟩
        · rintro j xv σ H7 hj ⟨b7, M, x2, y2, z2, m7, hM, hT, rfl⟩
          obtain ⟨c, rfl, hcm, hjl, _⟩ := vL_take cs hj
          have hcj : cs[j]? = some c := by
            rw [vL, List.getElem?_map] at hj
            cases e : cs[j]? with
            | none => rw [e] at hj; cases hj
            | some z =>
              rw [e] at hj
              have h1 : vN z = vN c := Option.some.inj hj
              have h2 : ((z : Nat) : Int) = ((c : Nat) : Int) := V.int.inj h1
              rw [show z = c by omega]
          have hc8 := h8 c hcm
          have hlt := lens_take hcj
          have hlm := lens_mono cs (j + 1)
          refine ⟨_, rfl, c, rfl, hc8, fun H8 fp hfp s8 e8 => ?_⟩
          have e8 : H8 fp = some (.tup (vL (fm c))) := e8
          have vf : (vL (fm c)).length = (fm c).length := by rw [vL, List.length_map]
          have nfp : fp ≠ sp := fun e => by rw [e, m7] at hfp; cases hfp
          refine ⟨_, rfl, _, _, rfl, .inr (SqT.of e8), _, rfl, by rw [vf]; omega, by rw [vf]; omega, for_range (fun k σ H' => But sp H8 H' ∧ ∃ M x, H' sp = some (.lst (vL M)) ∧ M.length = lens cs ∧ (∀ t, t < lens (cs.take j) + k → M[ord.getD t 0]? = some (ord.getD ((tg cs).getD t 0) 0)) ∧
            σ = [some (.ref b), some (.ref cp), x, some (.ref op), some (.ref sp), some (vN (lens (cs.take j))), some (vN c), some (.ref fp)]) ⟨But.refl _ _, M, x2, s8 _ _ m7, hM, hT, rfl⟩ ?_ ?_⟩
          · rintro k σ H9 hk ⟨b9, M, x2, m9, hM, hT, rfl⟩
            have hk : k < (fm c).length := by rw [vf] at hk; omega
            have o9 := b9 _ _ nos (s8 _ _ (b7 _ _ nos o6))
            have f9 := b9 _ _ nfp e8
            have i1 : ((lens (cs.take j) : Nat) : Int) + (0 + (k : Int)) = ((lens (cs.take j) + k : Nat) : Int) := by omega
            have fk : (fm c).getD k 0 < (fm c).length := shp_lt c hc8 _ (getD_mem hk)
            have i2 : ((lens (cs.take j) : Nat) : Int) + (((fm c).getD k 0 : Nat) : Int) = ((lens (cs.take j) + (fm c).getD k 0 : Nat) : Int) := by omega
            have tk := tg_get cs j k c hcj hk
            refine ⟨_, rfl, _, rfl, _, rfl, _, rfl, fp, _, _, _, rfl, rfl, SqT.of f9, (by rw [Int.zero_add]; exact vL_at hk), _, _, rfl, rfl, op, _, _, _, rfl, rfl, SqL.of o9, (by rw [i2]; exact vL_at (by omega)), ?_⟩
            refine ⟨_, rfl, _, rfl, _, rfl, _, rfl, _, _, rfl, rfl, op, _, _, _, rfl, rfl, SqL.of o9, (by rw [i1]; exact vL_at (by omega)), sp, _, _, ord.getD (lens (cs.take j) + k) 0, rfl, rfl, m9, ?_, ?_⟩
            · rw [vL, List.length_map, hM]
              exact ixN_nat (olt _ (by omega))
            · refine ⟨fun c' o hc' h => by rw [upd_ne hc']; exact b9 _ _ hc' h, M.set (ord.getD (lens (cs.take j) + k) 0) (ord.getD (lens (cs.take j) + (fm c).getD k 0) 0), _, ?_, by rw [List.length_set, hM], fun t ht => ?_, rfl⟩
              · rw [upd_same, vL, vL, List.map_set]
              · rw [List.getElem?_set]
                by_cases et : t = lens (cs.take j) + k
                · subst et
                  rw [if_pos rfl, tk, hM, if_pos (olt _ (by omega))]
                · rw [if_neg (fun e => et ?_)]
                  · exact hT t (by omega)
                  · have h1 : lens (cs.take j) + k < ord.length := by omega
                    have h2 : t < ord.length := by omega
                    rw [getD_in h1, getD_in h2] at e
                    exact ((List.getElem_inj onod).mp e).symm
          · rintro σ H9 ⟨b9, M, x2, m9, hM, hT, rfl⟩
            have f9 := b9 _ _ nfp e8
            rw [vf, Int.toNat_natCast] at hT
            refine ⟨_, rfl, _, rfl, _, _, rfl, .inr (SqT.of f9), _, _, rfl, rfl, (fun c' o hc' h => b9 _ _ hc' (s8 _ _ (b7 _ _ hc' h))), M, x2, some (vN c), some (V.ref fp), m9, hM, fun t ht => hT t (by omega), ?_⟩
            rw [hlt]
            show [some (V.ref b), some (V.ref cp), x2, some (V.ref op), some (V.ref sp), some (V.int (((lens (cs.take j) : Nat) : Int) + ((vL (fm c)).length : Int))), some (vN c), some (V.ref fp)] = _
            rw [vf, ← Int.natCast_add]
        · rintro σ H7 ⟨b7, M, x2, y2, z2, m7, hM, hT, rfl⟩
          rw [vL, List.length_map, List.take_length] at hT
          obtain ⟨ps, hv, hi⟩ := built_img h8 hp hM hT
          have nbs : b ≠ sp := by
            obtain ⟨g, f, s, hb4, _⟩ := B4
            exact ne_of_none hb4 hsp4
          have hspH : H sp = none := by
            cases e : H sp with
            | none => rfl
            | some o =>
              have := b4 _ _ (Ne.symm nbs) (s3 _ _ (b2 _ _ (Ne.symm nbs) e))
              rw [hsp4] at this
              cases this
          refine ⟨_, rfl, q H7 sp M ps hspH ?_ ?_ m7 (by omega) hv hi⟩
          · intro c' o hc' h
            exact b7 _ _ (ne_of_none h hspH) (s4 _ _ (b4 _ _ hc' (s3 _ _ (b2 _ _ hc' h))))
          · obtain ⟨g, f, s, hb4, hw4⟩ := B4
            exact ⟨g, f, s, b7 _ _ nbs (s4 _ _ hb4), hw4⟩
end
end K4
end
section
namespace K4
open PySem L2 PySem.Spec PyProof.Rows
/-! ### the written dict: a walk over its keys, .get -/
def Ikd (xs : ShX) : It := ⟨fun i _ => i < xs.length, fun i H x H' => H' = H ∧ ∃ q, xs[i]? = some q ∧ x = .ref q.2.1, fun i _ => xs.length ≤ i⟩
theorem turn_kd {P : Program} {w : World} {K : PySem.W.Frag} {tg : Expr} {d : Addr} {xs : ShX} {o : Obj} {es : Array DictEntry} {ep : Nat} (it : Addr) (hk : K.lookup d = some o) (hod : o.data = .dict es ep)
    (he : es.toList = xs.map fun x => (⟨reduceHash (Builtin.Tuple.tupleHashOf ((x.1.map fun n : Nat => (n : Int)).map hashInt)), .ref x.2.1, .str x.2.2.1 x.2.2.2⟩ : DictEntry)) :
    Turn P w K tg (Ikd xs) [it] it (fun i h => h.IsKeyIter it d i xs.length ep) where
  mem := by simp
  obj := fun i h st b hb => by
    have e : b = it := by simpa using hb
    subst e
    obtain ⟨oi, e, c, dd⟩ := st
    exact ⟨oi, e, fun v z => by rw [dd] at z; cases z⟩
  keep := fun i h h' st k => st.at fun oi e => k it (by simp) oi e
  item := by
    intro X hP hw hK hc i pins s σ H E I hf st hg
    subst hP hw hK
    have hi : i < xs.length := hg
    obtain ⟨f0, f1, f2, f3, f4, f5⟩ := hf it (by simp)
    have hgd := I.kIn _ _ hk
    have hsz : es.size = xs.length := by rw [← Array.length_toList, he, List.length_map]
    have hen : es[i]? = some ⟨reduceHash (Builtin.Tuple.tupleHashOf ((xs[i].1.map fun n : Nat => (n : Int)).map hashInt)), .ref xs[i].2.1, .str xs[i].2.2.1 xs[i].2.2.2⟩ := by
      rw [← Array.getElem?_toList, he, List.getElem?_map, List.getElem?_eq_getElem hi]
      rfl
    refine next_key_item st hgd hod hsz hen fun h' st' sb => ?_
    have I1 : Inv X pins σ H { s with heap := h' } := I.turned (t' := s.toks) (fun b ob hb e => (sb.2 b hb).trans e) f0 f1 f3 f4 f5
    obtain ⟨oi, e, c, dd⟩ := id st'
    exact ⟨_, rfl, go_of (s := { s with heap := h' }) e c dd (by decide) ⟨.ref xs[i].2.1, H, I1, rfl, ⟨rfl, xs[i], List.getElem?_eq_getElem hi, rfl⟩, st', fun b hb => (hf b hb).1⟩⟩
  done := by
    intro X hP hw hK hc i pins s σ H E I hf st hg
    subst hP hw hK
    have hi : xs.length ≤ i := hg
    obtain ⟨f0, f1, f2, f3, f4, f5⟩ := hf it (by simp)
    have hsz : es.size = xs.length := by rw [← Array.length_toList, he, List.length_map]
    exact next_key_end (I.ok.hd hc) st (I.kIn _ _ hk) hod hsz hi fun h' eb => ⟨rfl, I.turned (t' := s.toks) (fun b ob hb e => eb b ob hb e) f0 f1 f3 f4 f5⟩
  self := fun A i s Q E st h => by
    refine wpAny_pyIter_slot st.typeIs F.slot_dict_keyiterator_iter (wpAny_call_entry F.slot_dict_keyiterator_iter st.typeIs F.entry_dict_keyiterator_iter ?_ (F.args_dict_keyiterator_iter_1 _))
    show wpAny _ _ (ret (.ref it)) _ _ s
    exact wpAny_pure ⟨_, rfl, "dict_keyiterator", _, st.typeIs, F.slot_dict_keyiterator_next.lookup, h⟩
def iKd (K : PySem.W.Frag) (td : TE) : TI := fun σ H R => td σ H fun x H1 => ∃ d xs, x = .ref d ∧ Shp K d xs ∧ R (Ikd xs) H1
theorem pi_kd {X : Cx} {tg e : Expr} {td : TE} (he : PE X e td) : PI X tg e (iKd X.K td) := by
  refine ⟨fun pins s σ H R I h => ?_⟩
  refine thn (he.run pins s σ H _ I h) fun u s1 ⟨x, H1, I1, rx, d, xs, ex, S, q⟩ => ?_
  subst ex
  obtain rfl : u = Value.ref d := rx
  obtain ⟨o, es, ep, hk, hx, hdt, hes⟩ := S.ob
  have hsz : es.size = xs.length := by rw [← Array.length_toList, hes, List.length_map]
  refine iter_keys S.ns (I1.kIn _ _ hk) hx hdt (pi_one (tk := s1.toks) I1 _ (turn_kd _ hk hdt hes) ⟨_, Heap.get?_push_size _ rfl, rfl, ?_⟩ q)
  rw [hsz]
  rfl
/-- a comprehension over it -/
theorem lc_kd {xs : ShX} {g : TG} {tt : TT} {te : TE} {vs : List Nat} {σ : L2.St} {H1 : Hp} {D : Addr} {Qd : Hp → Prop} (Pv : Nat → Hp → Prop) (h0 : Pv 0 (upd H1 D (.lst [])))
    (hs : ∀ i q H, xs[i]? = some q → Pv i H → g (.ref q.2.1) (wipe σ vs) H fun σ2 H2 => wipe σ2 vs = wipe σ vs ∧ tt σ2 H2 fun b H3 =>
      if b = true then te σ2 H3 fun y H4 => ∃ acc, H4 D = some (.lst acc) ∧ acc.length < sizeLine ∧ Pv (i + 1) (upd H4 D (.lst (acc ++ [y]))) else Pv (i + 1) H3) (hd : ∀ H, Pv xs.length H → Qd H) :
    ∃ W : Nat → Nat → Hp → Prop, (∃ m, W 0 m (upd H1 D (.lst []))) ∧ ∀ i m H, W i m H →
      ((Ikd xs).stop i H ∧ Qd H) ∨ ((Ikd xs).go i H ∧ ∃ Nx : Hp → Prop, (∀ H', Nx H' → ∃ m', m' < m ∧ W (i + 1) m' H') ∧ ∀ x H', (Ikd xs).yld i H x H' → g x (wipe σ vs) H' fun σ2 H2 => wipe σ2 vs = wipe σ vs ∧ tt σ2 H2 fun b H3 =>
        if b = true then te σ2 H3 fun y H4 => ∃ acc, H4 D = some (.lst acc) ∧ acc.length < sizeLine ∧ Nx (upd H4 D (.lst (acc ++ [y]))) else Nx H3) := by
  refine ⟨fun i m H => m = xs.length - i ∧ i ≤ xs.length ∧ Pv i H, ⟨xs.length, by simp, Nat.zero_le _, h0⟩, ?_⟩
  rintro i m H ⟨rfl, hi, p⟩
  by_cases hlt : i < xs.length
  · refine .inr ⟨hlt, Pv (i + 1), fun H' p' => ⟨xs.length - (i + 1), by omega, rfl, hlt, p'⟩, fun x H' y => ?_⟩
    obtain ⟨rfl, q, hq, rfl⟩ := y
    exact hs i q H' hq p
  · have e : i = xs.length := by omega
    subst e
    exact .inl ⟨Nat.le_refl _, hd H p⟩
/-- the key's tuple -/
theorem Shp.key {K : PySem.W.Frag} {d : Addr} {xs : ShX} (S : Shp K d xs) {q : List Nat × Addr × Str × Tok} (hq : q ∈ xs) (H : Hp) : SqT K H q.2.1 (vL q.1) := by
  obtain ⟨o, its, n, h⟩ := S.ks q hq
  exact .inr ⟨o, its, n, h⟩
theorem ints_are {P : Program} {w : World} : ∀ {l : List Nat} {us : List Value}, Vals (vL l) us → ItemsAre (PySem.intKind P w) (l.map fun n : Nat => (n : Int)) us
  | [], _, h => by cases h; exact .nil
  | x :: l, _, h => by
    cases h with
    | cons h1 h2 =>
      obtain ⟨t, rfl⟩ := h1
      exact .cons (by simp [PySem.intKind, Value.isInt]) (ints_are h2)
def shGet (xs : ShX) (l : List Nat) : V := match xs.find? (fun x => decide (x.1 = l)) with | some q => .str q.2.2.1 | none => .non
def tKdGet (K : PySem.W.Frag) (td : TE) (t : TA) : TE := fun σ H Q => td σ H fun x H1 => ∃ d xs, x = .ref d ∧ Shp K d xs ∧ t σ H1 fun ys H2 => ∃ b l, ys = [.ref b] ∧ SqT K H2 b (vL l) ∧ Q (shGet xs l) H2
theorem pe_kdGet {X : Cx} {o e : Expr} {td : TE} {t : TA} {apos cpos : Pos} (hu : X.A.units + 1 < cLine) (ho : PE X o td) (ha : PA X [e] t) (hbase : attributeBase o "get" X.env (eval o X.env) = eval o X.env := by rfl)
    (hfew : ((backTo cpos (starEach [e] X.env)).all (fun x => !x.1) && (backToKw cpos (keywordEach [] X.env)).all (fun x => x.1.isSome)
      && decide ([e].length + ([] : List Keyword).length + (if ([] : List Keyword).isEmpty then 0 else 1) < 30)) = true := by rfl)
    (hline : (apos.endLine == cpos.line) = true := by rfl) (hs : starEach [e] X.env = (false, eval e X.env) :: starEach [] X.env := by rfl) (hplain : (backTo cpos (starEach [] X.env)).any (·.1) = false := by rfl) :
    PE X (.Call (.Attribute o "get" apos) [e] [] cpos) (tKdGet X.K td t) := by
  refine ⟨fun pins s σ H Q I h => ?_⟩
  refine wpAny_Call_method_late hbase hfew hline rfl (thn (ho.run pins s σ H _ I h) fun v s1 ⟨x, H1, I1, r1, d, xs, ex, S, q1⟩ => ?_)
  subst ex
  obtain rfl : v = Value.ref d := r1
  obtain ⟨od, es, ep, hk, hx, hdt, hes⟩ := S.ob
  have hgd := I1.kIn _ _ hk
  refine ⟨"dict", "dict.get", PySem.F.plainAttrs_dict, PySem.F.slot_dict_get, PySem.F.type_dict_get, ⟨od, hgd, hx.1⟩, fun c hc => ?_, ?_⟩
  · cases hc
    exact ⟨od, hgd, hx.2.1⟩
  have hA := ha.run cpos pins s1 σ H1 _ I1 q1
  rw [hs] at hA ⊢
  refine Calls.callWith_builtin (by show (false || (backTo cpos (starEach [] X.env)).any (·.1)) = false; rw [hplain] <;> rfl) (Calls.evalArgs_plain ?_)
  refine thn hA fun us s2 ⟨vs, H2, I2, r2, b, l, ey, hb, q2⟩ => ?_
  subst ey
  rw [Vals.ref1 r2]
  have hgd2 := I2.kIn _ _ hk
  obtain ⟨its, rv, pl, hz⟩ := I2.tuple hb
  have hkey : (tupleKind (PySem.intKind X.prog X.w)).is s2.heap (l.map fun n : Nat => (n : Int)) b := by
    obtain ⟨o2, ho2, hc2, n2, hd2⟩ := pl
    exact ⟨o2, _, n2, ho2, hc2, hd2, by simpa using ints_are rv⟩
  have dd : s2.heap.DictKeyed (tupleKind (PySem.intKind X.prog X.w)) d (pairsH (xs.map fun x => (x.1.map (fun n : Nat => (n : Int)), x.2.1, Value.str x.2.2.1 x.2.2.2))) := by
    refine Heap.DictKeyed.ofEntries _ hgd2 hx hdt ?_ ?_ ?_
    · rw [hes, List.map_map]
      rfl
    · intro y hy
      obtain ⟨z, hz, rfl⟩ := List.mem_map.mp hy
      obtain ⟨o2, its2, n2, h1, h2, h3, h4, h5⟩ := S.ks z hz
      exact ⟨o2, its2, n2, I2.kIn _ _ h1, h2, h3, ints_are h5⟩
    · rw [List.map_map]
      have := S.nd
      refine List.pairwise_map.mpr ((List.pairwise_map.mp this).imp fun {x y} hxy e => hxy ?_)
      exact (List.map_inj_right fun a b z => by omega).mp e
  refine get_keyed (tupleKind_room_in1 hu) hkey S.ns dd ?_
  refine ⟨shGet xs l, H2, I2.tok _, ?_, q2⟩
  unfold shGet valueAt pairsH
  rw [List.find?_map, List.find?_map]
  have e : ((fun (kv : List Int × Value) => decide (kv.1 = l.map fun n : Nat => (n : Int))) ∘ (fun x : List Int × Addr × Value => (x.1, x.2.2))) ∘ (fun x : List Nat × Addr × Str × Tok => (x.1.map (fun n : Nat => (n : Int)), x.2.1, Value.str x.2.2.1 x.2.2.2)) = fun x => decide (x.1 = l) := by
    funext x
    exact decide_eq_decide.mpr (List.map_inj_right fun a b z => by omega)
  rw [e]
  cases xs.find? (fun x => decide (x.1 = l)) with
  | none => rfl
  | some q => exact ⟨_, rfl⟩
end K4
end
section
namespace K4
open PySem L2 K4P
/-! ### the patterns as a sorted set -/
def gen (k : Nat) : List (List Nat) := (shpOf k).flatMap fun f => (List.range (fct k)).map fun i => names f (prm k i)
def genOk (k : Nat) (P : List (List Nat)) : Bool := let G := gen k; G.all (fun x => decide (x ∈ P)) && P.all (fun x => decide (x ∈ G))
theorem gen1 : genOk 1 pl1 = true := by decide +kernel
theorem gen2 : genOk 2 pl2 = true := by decide +kernel
theorem gen3 : genOk 3 pl3 = true := by decide +kernel
theorem gen4 : genOk 4 pl4 = true := by decide +kernel
theorem gen_mem {k : Nat} (h1 : 1 ≤ k) (h4 : k ≤ 4) (x : List Nat) : x ∈ gen k ↔ x ∈ pats k := by
  have f : ∀ P, genOk k P = true → (x ∈ gen k ↔ x ∈ P) := fun P h => by
    unfold genOk at h
    rw [Bool.and_eq_true] at h
    exact ⟨fun z => of_decide_eq_true (List.all_eq_true.mp h.1 x z), fun z => of_decide_eq_true (List.all_eq_true.mp h.2 x z)⟩
  rcases (by omega : k = 1 ∨ k = 2 ∨ k = 3 ∨ k = 4) with rfl | rfl | rfl | rfl
  · rw [pats_is1]; exact f _ gen1
  · rw [pats_is2]; exact f _ gen2
  · rw [pats_is3]; exact f _ gen3
  · rw [pats_is4]; exact f _ gen4
abbrev zs (r : List Nat) : List Int := r.map fun n : Nat => (n : Int)
def codes (P : List (List Nat)) : Bool := decide (P.Pairwise fun x y => TS.code 4 (zs x) < TS.code 4 (zs y))
theorem codes1 : codes pl1 = true := by decide +kernel
theorem codes2 : codes pl2 = true := by decide +kernel
theorem codes3 : codes pl3 = true := by decide +kernel
theorem codes4 : codes pl4 = true := by decide +kernel
theorem pats_zero : pats 0 = [] := by decide +kernel
theorem pats_codes {k : Nat} (h4 : k ≤ 4) : (pats k).Pairwise fun x y => TS.code 4 (zs x) < TS.code 4 (zs y) := by
  rcases (by omega : k = 0 ∨ k = 1 ∨ k = 2 ∨ k = 3 ∨ k = 4) with rfl | rfl | rfl | rfl | rfl
  · rw [pats_zero]; exact .nil
  · rw [pats_is1]; exact of_decide_eq_true codes1
  · rw [pats_is2]; exact of_decide_eq_true codes2
  · rw [pats_is3]; exact of_decide_eq_true codes3
  · rw [pats_is4]; exact of_decide_eq_true codes4
theorem pw_inj {α : Type} {f : α → Int} : ∀ {l : List α}, l.Pairwise (fun x y => f x < f y) → ∀ a ∈ l, ∀ b ∈ l, f a = f b → a = b
  | [], _, a, ha, _, _, _ => by cases ha
  | x :: l, h, a, ha, b, hb, e => by
    obtain ⟨h1, h2⟩ := List.pairwise_cons.mp h
    rcases List.mem_cons.mp ha with p | p <;> rcases List.mem_cons.mp hb with q | q
    · rw [p, q]
    · have := h1 b q
      rw [p] at e
      omega
    · have := h1 a p
      rw [q] at e
      omega
    · exact pw_inj h2 a p b q e
theorem zs_inj {x y : List Nat} (e : zs x = zs y) : x = y := (List.map_inj_right fun a b z => by omega).mp e
theorem sorted_pats {k : Nat} (h4 : k ≤ 4) {L : List (List Int)} (hn : L.Nodup) (hp : L.Pairwise fun x y => TS.code 4 x ≤ TS.code 4 y) (hm : ∀ r, r ∈ L ↔ r ∈ (pats k).map zs) : L = (pats k).map zs := by
  have pc := pats_codes h4
  have pc' : ((pats k).map zs).Pairwise fun x y => TS.code 4 x < TS.code 4 y := List.pairwise_map.mpr pc
  have nd : ((pats k).map zs).Nodup := pc'.imp fun h e => by rw [e] at h; omega
  have pm : L.Perm ((pats k).map zs) := (List.perm_ext_iff_of_nodup hn nd).mpr hm
  refine List.Perm.eq_of_pairwise (le := fun x y => TS.code 4 x ≤ TS.code 4 y) (fun a b ha hb h1 h2 => pw_inj pc' a ((hm a).mp ha) b hb (by omega)) hp (pc'.imp fun h => by omega) pm
theorem len_sub {α : Type} [DecidableEq α] : ∀ (l D : List α), l.Nodup → (∀ x ∈ l, x ∈ D) → l.length ≤ D.length
  | [], _, _, _ => Nat.zero_le _
  | x :: l, D, hn, hs => by
    obtain ⟨h1, h2⟩ := List.nodup_cons.mp hn
    have hx := hs x List.mem_cons_self
    have := len_sub l (D.erase x) h2 fun y hy => (List.mem_erase_of_ne fun e => h1 (by rw [← e]; exact hy)).mpr (hs y (List.mem_cons_of_mem _ hy))
    rw [List.length_erase_of_mem hx] at this
    have := List.length_pos_of_mem hx
    rw [List.length_cons]
    omega
theorem pats_few {k : Nat} (h4 : k ≤ 4) : (pats k).length ≤ 42 := by
  rcases (by omega : k = 0 ∨ k = 1 ∨ k = 2 ∨ k = 3 ∨ k = 4) with rfl | rfl | rfl | rfl | rfl
  · rw [pats_zero]; decide
  · rw [pats_len1]; decide
  · rw [pats_len2]; decide
  · rw [pats_len3]; decide
  · rw [pats_len4]; decide
def prmOk (k : Nat) : Bool := (List.range (fct k)).all fun i => decide ((prm k i).length = k) && (prm k i).all fun x => decide (x < k)
theorem prm_all : prmOk 1 = true ∧ prmOk 2 = true ∧ prmOk 3 = true ∧ prmOk 4 = true := by decide +kernel
theorem prm_ok {k i : Nat} (h1 : 1 ≤ k) (h4 : k ≤ 4) (hi : i < fct k) : (prm k i).length = k ∧ ∀ x ∈ prm k i, x < k := by
  have f : prmOk k = true := by
    rcases (by omega : k = 1 ∨ k = 2 ∨ k = 3 ∨ k = 4) with rfl | rfl | rfl | rfl
    · exact prm_all.1
    · exact prm_all.2.1
    · exact prm_all.2.2.1
    · exact prm_all.2.2.2
  have := List.all_eq_true.mp f i (List.mem_range.mpr hi)
  rw [Bool.and_eq_true] at this
  exact ⟨of_decide_eq_true this.1, fun x hx => of_decide_eq_true (List.all_eq_true.mp this.2 x hx)⟩
end K4
end
section
namespace K4
open PySem L2
/-- rows of numbers as tuples -/
structure Tpls (K : PySem.W.Frag) (H : Hp) (rs : List Addr) (gs : List (List Nat)) : Prop where
  len : rs.length = gs.length
  at' : ∀ (i : Nat) (r : Addr) (g : List Nat), rs[i]? = some r → gs[i]? = some g → SqT K H r (vL g)
theorem names_step {f q : List Nat} {j : Nat} (hl : f.length = q.length) {x y : Nat} (hx : q[j]? = some x) (hy : f[j]? = some y) :
    (((q.zip f).take (j + 1)).foldl (fun ns p => ns.set p.1 (q.getD p.2 0)) (List.replicate q.length 0)) = ((((q.zip f).take j).foldl (fun ns p => ns.set p.1 (q.getD p.2 0)) (List.replicate q.length 0))).set x (q.getD y 0) := by
  have : (q.zip f)[j]? = some (x, y) := by
    rw [List.getElem?_zip_eq_some]
    exact ⟨hx, hy⟩
  rw [take_succ' this, List.foldl_append]
  rfl
theorem nat_at {l : List Nat} {j : Nat} {x : V} (h : (vL l)[j]? = some x) : ∃ m, l[j]? = some m ∧ x = vN m := by
  rw [vL, List.getElem?_map] at h
  cases e : l[j]? with
  | none => rw [e] at h; cases h
  | some z => rw [e] at h; exact ⟨z, rfl, (Option.some.inj h).symm⟩
theorem fold_len (q : List Nat) : ∀ (ps : List (Nat × Nat)) (l : List Nat), (ps.foldl (fun ns p => ns.set p.1 (q.getD p.2 0)) l).length = l.length
  | [], _ => rfl
  | p :: ps, l => by
    rw [List.foldl_cons, fold_len q ps]
    exact List.length_set
/-! walks with any body -/
theorem it_list {K : PySem.W.Frag} {a : Addr} {xs : List V} {body : V → Hp → (Hp → Prop) → Prop} {H0 : Hp} {Qd : Hp → Prop} (Pv : Nat → Hp → Prop) (h0 : Pv 0 H0) (hl : ∀ i H, i ≤ xs.length → Pv i H → SqL K H a xs)
    (hs : ∀ i x H, xs[i]? = some x → Pv i H → body x H (Pv (i + 1))) (hd : ∀ H, Pv xs.length H → Qd H) :
    ∃ W : Nat → Nat → Hp → Prop, (∃ m, W 0 m H0) ∧ ∀ i m H, W i m H → ((Itl K a).stop i H ∧ Qd H) ∨ ((Itl K a).go i H ∧ ∃ Nx : Hp → Prop, (∀ H', Nx H' → ∃ m', m' < m ∧ W (i + 1) m' H') ∧ ∀ x H', (Itl K a).yld i H x H' → body x H' Nx) := by
  refine ⟨fun i m H => m = xs.length - i ∧ i ≤ xs.length ∧ Pv i H, ⟨xs.length, rfl, Nat.zero_le _, h0⟩, ?_⟩
  rintro i m H ⟨rfl, hi, p⟩
  have q := hl i H hi p
  by_cases hlt : i < xs.length
  · refine .inr ⟨⟨xs, xs[i], q, List.getElem?_eq_getElem hlt⟩, Pv (i + 1), fun H' p' => ⟨xs.length - (i + 1), by omega, rfl, hlt, p'⟩, fun x H' y => ?_⟩
    obtain ⟨rfl, y⟩ := y
    exact hs i x H' (y xs q) p
  · have e : i = xs.length := by omega
    subst e
    exact .inl ⟨⟨xs, q, Nat.le_refl _⟩, hd H p⟩
theorem it_pm {n : Nat} {body : V → Hp → (Hp → Prop) → Prop} {H0 : Hp} {Qd : Hp → Prop} (Pv : Nat → Hp → Prop) (h0 : Pv 0 H0)
    (hs : ∀ i T H, i < K4P.fct n → Pv i H → H T = none → body (.ref T) (upd H T (.tup (vL (K4P.prm n i)))) (Pv (i + 1))) (hd : ∀ H, Pv (K4P.fct n) H → Qd H) :
    ∃ W : Nat → Nat → Hp → Prop, (∃ m, W 0 m H0) ∧ ∀ i m H, W i m H → ((K4P.Itp n).stop i H ∧ Qd H) ∨ ((K4P.Itp n).go i H ∧ ∃ Nx : Hp → Prop, (∀ H', Nx H' → ∃ m', m' < m ∧ W (i + 1) m' H') ∧ ∀ x H', (K4P.Itp n).yld i H x H' → body x H' Nx) := by
  refine ⟨fun i m H => m = K4P.fct n - i ∧ i ≤ K4P.fct n ∧ Pv i H, ⟨K4P.fct n, rfl, Nat.zero_le _, h0⟩, ?_⟩
  rintro i m H ⟨rfl, hi, p⟩
  by_cases hlt : i < K4P.fct n
  · refine .inr ⟨hlt, Pv (i + 1), fun H' p' => ⟨K4P.fct n - (i + 1), by omega, rfl, hlt, p'⟩, fun x H' y => ?_⟩
    obtain ⟨T, rfl, hT, rfl⟩ := y
    exact hs i T H hlt p hT
  · have e : i = K4P.fct n := by omega
    subst e
    exact .inl ⟨Nat.le_refl _, hd H p⟩
theorem set_step {L L' : List (Addr × List Int)} {T : Addr} {k : List Int} {S : List (List Int)} (h1 : k ∈ L.map (·.2) → L' = L) (h2 : k ∉ L.map (·.2) → L'.Perm ((T, k) :: L)) (hn : (L.map (·.2)).Nodup) (hm : ∀ r, r ∈ L.map (·.2) ↔ r ∈ S) :
    (L'.map (·.2)).Nodup ∧ (∀ r, r ∈ L'.map (·.2) ↔ r ∈ S ++ [k]) ∧ ∀ p ∈ L', p ∈ L ∨ p = (T, k) := by
  by_cases c : k ∈ L.map (·.2)
  · rw [h1 c]
    refine ⟨hn, fun r => ?_, fun p hp => .inl hp⟩
    rw [hm r, List.mem_append, List.mem_singleton]
    exact ⟨.inl, fun z => z.elim id fun e => by rw [e]; exact (hm k).mp c⟩
  · have pm := h2 c
    have pm2 := pm.map (·.2)
    refine ⟨pm2.nodup_iff.mpr (List.nodup_cons.mpr ⟨c, hn⟩), fun r => ?_, fun p hp => ?_⟩
    · rw [pm2.mem_iff, List.map_cons, List.mem_cons, hm r, List.mem_append, List.mem_singleton]
      exact Or.comm
    · exact (List.mem_cons.mp (pm.mem_iff.mp hp)).symm
theorem sqT_set {P : Program} {w : World} {K : PySem.W.Frag} {H : Hp} {c D : Addr} {xs : List V} {L : List (Addr × List Int)} {o : HO} (h : SqT K H c xs) (e : H D = some (SetTO P w D L)) : SqT K (upd H D o) c xs := by
  rcases h with (h | ⟨ob, h⟩) | h
  · exact .inl (.inl (by rw [upd_ne (fun z => by rw [z, e] at h; cases h)]; exact h))
  · exact .inl (.inr ⟨ob, by rw [upd_ne (fun z => by rw [z, e] at h; cases h)]; exact h⟩)
  · exact .inr h
theorem sqT_but {K : PySem.W.Frag} {H H' : Hp} {b c : Addr} {xs : List V} (x : But b H H') (hc : c ≠ b) (h : SqT K H c xs) : SqT K H' c xs := by
  rcases h with (h | ⟨ob, h⟩) | h
  · exact .inl (.inl (x _ _ hc h))
  · exact .inl (.inr ⟨ob, x _ _ hc h⟩)
  · exact .inr h
section
variable {P : Program} {w : World} {K : PySem.W.Frag} {mg : Str → Option Value} {base : Heap} {a : Ad}
abbrev s_names : Stmt := topS 24
abbrev N_names : List Str := ["shape", "records", "names", "record", "place"]
theorem sc_names : FnScope N_names ["shape", "records"] (defScope s_names) := ⟨rfl, rfl, rfl, by decide +kernel, rfl, by decide +kernel, by decide +kernel⟩
def spNames (K : PySem.W.Frag) : Sp := fun vs H Q _ => ∃ (fa qa : Addr) (f q : List Nat), vs = [.ref fa, .ref qa] ∧ SqT K H fa (vL f) ∧ SqT K H qa (vL q) ∧ f.length = q.length ∧ q.length ≤ 4 ∧ (∀ x ∈ f, x < q.length) ∧ (∀ x ∈ q, x < q.length) ∧
  ∀ H' p, H p = none → Same H H' → H' p = some (.tup (vL (names f q))) → Q (.ref p) H'
theorem B_names (T : Txt K mg a) : Binds K (a.fd 24) ["shape", "records"] [] := T.f_names.binds fun _ _ _ _ _ _ us hl => match us, hl with | [_, _], _ => rfl
theorem G_names (T : Txt K mg a) : FnOk P w K mg base CX0 1 (a.f 24) (a.fd 24) ["shape", "records"] (spNames K) := by
  refine T.f_names.ok sc_names (fun vs H Q E h => ?_) (fun cdv A outer s H vs Q E hr h => ?_)
  · obtain ⟨_, _, _, _, rfl, _⟩ := h
    rfl
  · obtain ⟨fa, qa, f, q, rfl, hF, hQ, hl, h4, hf, hq, k⟩ := h
    refine ⟨_, (pss_cons (ps_set (i := 2) sc_names.nd rfl (Or.inl rfl) (pe_op op_rep (pe_lst (pa_cons pe_int pa_nil)) (pe_callB call_len_seq (by rfl) T.n_len (by decide +kernel) (pa_cons (pv 1) pa_nil))))
      (pss_cons (ps_for PassesOwn.never rfl (RZ.pi_zipA (by rfl) T.n_zip (pa_cons (pv 1) (pa_cons (pv 0) pa_nil))) (pg_tup rfl (pgs_cons (pg_name (i := 3) sc_names.nd rfl (Or.inl rfl)) (pgs_cons (pg_name (i := 4) sc_names.nd rfl (Or.inl rfl)) pgs_nil)))
        (pss_one (ps_asg (pe_ix ix_tup (pv 1) (pv 4) (fun _ _ => rfl)) (pg_sub (pv 2) (pv 3) set_list))))
      (pss_one (ps_ret (pe_callTy call_tuple_of (by rfl) T.n_tuple (by decide +kernel) (pa_cons (pv 2) pa_nil)))))), ?_⟩
    have vq : (vL q).length = q.length := by rw [vL, List.length_map]
    refine ⟨one_le _, fun zp hzp => ?_⟩
    have sZ := same_new (o := .lst [V.int 0]) hzp
    refine ⟨_, rfl, _, _, rfl, .inr (sameT sZ hQ), zp, _, _, rfl, rfl, upd_same, by omega, by rw [vq]; omega, ?_, fun np hnp => ?_⟩
    · rw [vq]
      show 1 * ((q.length : Nat) : Int).toNat ≤ sizeLine
      rw [Nat.one_mul, Int.toNat_natCast]
      exact sz64 (by omega)
    rw [vq, Int.toNat_natCast, rep_zero]
    have hn0 : H np = none := sZ.free hnp
    have s1 : Same H (upd (upd H zp (.lst [V.int 0])) np (.lst (vL (List.replicate q.length 0)))) := sZ.trans (same_new hnp)
    refine ⟨_, rfl, _, rfl, qa, fa, vL q, vL f, rfl, .inr ⟨sameT s1 hQ, sameT s1 hF, RZ.for_zipT (K := K) (xs := vL q) (ys := vL f) (by rw [vL, vL, List.length_map, List.length_map, hl]) (fun j σ H' => Same H H' ∧ ∃ M x y, H' np = some (.lst (vL M)) ∧ M.length = q.length ∧ M = (((q.zip f).take j).foldl (fun ns p => ns.set p.1 (q.getD p.2 0)) (List.replicate q.length 0)) ∧
      σ = [some (.ref fa), some (.ref qa), some (.ref np), x, y]) ⟨s1, _, none, none, upd_same, List.length_replicate, rfl, rfl⟩ (fun j σ H' z => ⟨sameT z.1 hQ, sameT z.1 hF⟩) ?_ ?_⟩⟩
    · rintro j xv yv T2 σ H2 hx hy ⟨s2, M, x0, y0, e2, hM, hm, rfl⟩ hT
      obtain ⟨x, hx', rfl⟩ := nat_at hx
      obtain ⟨y, hy', rfl⟩ := nat_at hy
      have nT : np ≠ T2 := ne_of_none e2 hT
      have hxl := hq x (List.mem_of_getElem? hx')
      have hyl := hf y (List.mem_of_getElem? hy')
      refine ⟨T2, _, rfl, SqT.of upd_same, rfl, _, _, rfl, _, _, rfl, rfl, ?_⟩
      refine ⟨_, rfl, _, rfl, qa, _, _, _, rfl, rfl, sameT (s2.trans (same_new hT)) hQ, vL_at hyl, _, rfl, _, rfl, np, _, _, x, rfl, rfl, by rw [upd_ne nT]; exact e2, ixN_nat (by rw [vL, List.length_map]; omega), ?_⟩
      refine ⟨same_mut (s2.trans (same_new hT)) hn0, M.set x (q.getD y 0), _, _, ?_, by rw [List.length_set, hM], ?_, rfl⟩
      · rw [upd_same, vL, vL, List.map_set]
      · rw [names_step hl hx' hy', ← hm]
    · rintro σ H2 ⟨s2, M, x0, y0, e2, hM, hm, rfl⟩
      rw [vq, List.take_of_length_le (by rw [List.length_zip]; omega)] at hm
      refine ⟨_, rfl, np, _, rfl, .inl ⟨SqL.of e2, fun p hp => ?_⟩⟩
      refine k _ p (s2.free hp) (s2.trans (same_new hp)) ?_
      rw [upd_same, hm]
      rfl
abbrev s_patterns : Stmt := topS 25
abbrev N_patterns : List Str := ["many", "shapes", "shape", "records"]
theorem sc_patterns : FnScope N_patterns ["many"] (defScope s_patterns) := ⟨rfl, rfl, rfl, by decide +kernel, rfl, by decide +kernel, by decide +kernel⟩
def spPatterns (K : PySem.W.Frag) : Sp := fun vs H Q _ => ∃ k : Nat, vs = [vN k] ∧ k ≤ 4 ∧
  ∀ H' p rs, H p = none → Same H H' → H' p = some (.lst (rs.map V.ref)) → Tpls K H' rs (pats k) → Q (.ref p) H'
theorem B_patterns (T : Txt K mg a) : Binds K (a.fd 25) ["many"] [] := T.f_patterns.binds fun _ _ _ _ _ _ us hl => match us, hl with | [_], _ => rfl
theorem G_patterns (T : Txt K mg a) : FnOk P w K mg base CX0 2 (a.f 25) (a.fd 25) ["many"] (spPatterns K) := by
  refine T.f_patterns.ok sc_patterns (fun vs H Q E h => ?_) (fun cdv A outer s H vs Q E hr h => ?_)
  · obtain ⟨_, rfl, _⟩ := h
    rfl
  · obtain ⟨k, rfl, h4, q⟩ := h
    refine ⟨_, (pss_cons (ps_setLc (i := 1) (own := [("shape", 2)]) (g := gName 2) rfl sc_patterns.nd rfl rfl (sw_true rfl rfl rfl (by decide +kernel)) (pi_kd (pe_glob (v := V.ref a.aS) rfl T.mSHAPES rfl)) (blkOk_by (own := [("shape", 2)]) (N := N_patterns) (sc := defScope s_patterns) (by decide +kernel)) (fun _ _ _ _ _ => pg_name (i := 2) sc_patterns.nd rfl (Or.inl rfl)) (fun _ _ _ _ _ => (pts_one (pt_cmpR op_eq (pe_callB (r := rLenS K) call_len_seq (by rfl) T.n_len (by decide +kernel) (pa_cons (pv 2) pa_nil)) (pv 0) (nomark _)))) (fun _ _ _ _ _ => (pv 2)))
      (pss_one (ps_ret (pe_callB (cr_sortedT rfl) (by rfl) T.n_sorted (by decide +kernel) (pa_cons (K4Q.pe_sc2 (own := [("shape", 2), ("records", 3)]) (vs1 := [3]) (g := gName 2) (g1 := gName 3) rfl hr.units sc_patterns.nd (pi_list (pv 1)) (blkOk_by (own := [("shape", 2), ("records", 3)]) (N := N_patterns) (sc := defScope s_patterns) (by decide +kernel)) (by decide) (fun _ _ _ _ _ => pg_name (i := 2) sc_patterns.nd rfl (Or.inl rfl)) (fun _ _ _ _ _ => K4P.pi_pm rfl (by rfl) T.m_permutations (by rfl) T.n_range (pv 0)) (fun _ _ _ _ _ => pg_name (i := 3) sc_patterns.nd rfl (Or.inl rfl)) (fun _ _ _ _ _ => (pe_call (G_names T) (hr.mono (by decide)) rfl T.m_names T.f_names.kp (B_names T) .nil pass0 (pa_cons (pv 2) (pa_cons (pv 3) pa_nil))))) pa_nil))))), ?_⟩
    refine ⟨_, _, rfl, T.shp, fun D hD => lc_kd (fun i H' => Same H H' ∧ H' D = some (.lst (((a.shx.take i).filter fun x => decide (x.1.length = k)).map fun x => V.ref x.2.1))) ⟨same_new hD, by rw [List.take_zero]; exact upd_same⟩ ?_ ?_⟩
    · rintro i x H2 hi ⟨s2, e2⟩
      have hx := List.mem_of_getElem? hi
      refine ⟨rfl, _, rfl, _, _, rfl, .inr (T.shp.key hx H2), _, rfl, rfl, _, rfl, ite2 (fun c => ?_) (fun c => ?_)⟩
      · rw [vL, List.length_map] at c
        have c := int_eq c
        refine ⟨_, rfl, _, e2, ?_, same_mut s2 hD, ?_⟩
        · rw [List.length_map]
          refine szB (Nat.le_trans (List.length_filter_le _ _) ?_)
          have : a.shx.length = 8 := by
            rw [← List.length_map (f := (·.1)), T.shk]
            rfl
          rw [List.length_take]
          omega
        · rw [upd_same, take_succ' hi, List.filter_append, List.map_append]
          simp [c]
      · rw [vL, List.length_map] at c
        have c := int_ne c
        refine ⟨s2, ?_⟩
        rw [take_succ' hi, List.filter_append, List.map_append]
        simp [c, e2]
    · rintro H2 ⟨s2, e2⟩
      rw [List.take_length] at e2
      generalize hsh : (a.shx.filter fun x => decide (x.1.length = k)) = shs at e2
      have hso : shs.map (·.1) = shpOf k := by
        rw [← hsh]
        unfold shpOf
        rw [← T.shk, List.filter_map]
        rfl
      have hmem : ∀ x ∈ shs, x ∈ a.shx ∧ x.1.length = k ∧ x.1 ∈ shp := fun x hx => by
        rw [← hsh] at hx
        obtain ⟨h1, h2⟩ := List.mem_filter.mp hx
        exact ⟨h1, of_decide_eq_true h2, by rw [← T.shk]; exact List.mem_map_of_mem h1⟩
      have hgen : gen k = shs.flatMap fun x => (List.range (K4P.fct k)).map fun j => names x.1 (K4P.prm k j) := by
        unfold gen
        rw [← hso, List.flatMap_map]
      have hpm : ∀ r, r ∈ (gen k).map zs ↔ r ∈ (pats k).map zs := fun r => by
        rcases Nat.eq_zero_or_pos k with z | z
        · subst z
          rw [pats_zero, show gen 0 = [] by rfl]
        · simp only [List.mem_map, gen_mem z h4]
      refine ⟨_, rfl, D, rfl, ⟨_, SqL.of e2⟩, fun D2 hD2 => ?_⟩
      have hD20 : H D2 = none := s2.free hD2
      refine it_list (K := K) (xs := shs.map fun x => V.ref x.2.1) (fun i H' => But D2 H2 H' ∧ ∃ L, H' D2 = some (SetTO P w D2 L) ∧ (L.map (·.2)).Nodup ∧ (∀ p ∈ L, SqT K H' p.1 (p.2.map V.int)) ∧
        ∀ r, r ∈ L.map (·.2) ↔ r ∈ ((shs.take i).flatMap fun x => (List.range (K4P.fct k)).map fun j => names x.1 (K4P.prm k j)).map zs) ⟨fun c o hc h => by rw [upd_ne hc]; exact h, [], upd_same, .nil, (fun p h => by cases h), fun r => by rw [List.take_zero]; exact Iff.rfl⟩ (fun i H' _ z => SqL.of (z.1 _ _ (ne_of_none e2 hD2) e2)) ?_ ?_
      · rintro i xv H3 hi ⟨b3, L, eL, hn, hL, hm⟩
        obtain ⟨x, hx, rfl⟩ : ∃ x, shs[i]? = some x ∧ xv = V.ref x.2.1 := by
          rw [List.getElem?_map] at hi
          cases e : shs[i]? with
          | none => rw [e] at hi; cases hi
          | some z => rw [e] at hi; exact ⟨z, rfl, (Option.some.inj hi).symm⟩
        obtain ⟨hx1, hx2, hx3⟩ := hmem x (List.mem_of_getElem? hx)
        obtain ⟨l1, _, lx⟩ := shp_of hx3
        have hk1 : 1 ≤ k := by omega
        refine ⟨rfl, _, rfl, k, rfl, hk1, h4, it_pm (fun j H' => But D2 H2 H' ∧ ∃ L, H' D2 = some (SetTO P w D2 L) ∧ (L.map (·.2)).Nodup ∧ (∀ p ∈ L, SqT K H' p.1 (p.2.map V.int)) ∧
          ∀ r, r ∈ L.map (·.2) ↔ r ∈ (((shs.take i).flatMap fun x => (List.range (K4P.fct k)).map fun j => names x.1 (K4P.prm k j)) ++ (List.range j).map fun j => names x.1 (K4P.prm k j)).map zs) ⟨b3, L, eL, hn, hL, fun r => by rw [hm r]; simp⟩ ?_ ?_⟩
        · rintro j Tq H4 hj ⟨b4, L, eL, hn, hL, hm⟩ hTq
          obtain ⟨hpl, hpx⟩ := prm_ok hk1 h4 hj
          have nT : D2 ≠ Tq := ne_of_none eL hTq
          refine ⟨rfl, _, rfl, _, rfl, x.2.1, Tq, x.1, K4P.prm k j, rfl, T.shp.key hx1 _, SqT.of upd_same, by omega, by omega, (fun y hy => by have := lx y hy; omega), (fun y hy => by have := hpx y hy; omega), fun H5 p hp s5 e5 => ?_⟩
          have sN := (same_new (o := .tup (vL (K4P.prm k j))) hTq).trans s5
          have eL5 := sN _ _ eL
          have sub : ∀ y ∈ ((shs.take i).flatMap fun x => (List.range (K4P.fct k)).map fun j => names x.1 (K4P.prm k j)) ++ (List.range j).map fun j => names x.1 (K4P.prm k j), y ∈ gen k := fun y hy => by
            rw [hgen]
            rcases List.mem_append.mp hy with z | z
            · obtain ⟨x', h1, h2⟩ := List.mem_flatMap.mp z
              exact List.mem_flatMap.mpr ⟨x', List.mem_of_mem_take h1, h2⟩
            · obtain ⟨j', h1, h2⟩ := List.mem_map.mp z
              exact List.mem_flatMap.mpr ⟨x, List.mem_of_getElem? hx, List.mem_map.mpr ⟨j', List.mem_range.mpr (Nat.lt_trans (List.mem_range.mp h1) hj), h2⟩⟩
          have few : L.length ≤ 42 := by
            have h1 := len_sub (L.map (·.2)) ((pats k).map zs) hn fun r hr' => by
              refine (hpm r).mp ?_
              obtain ⟨y, hy, rfl⟩ := List.mem_map.mp ((hm r).mp hr')
              exact List.mem_map_of_mem (sub y hy)
            rw [List.length_map, List.length_map] at h1
            exact Nat.le_trans h1 (pats_few h4)
          refine ⟨p, zs (names x.1 (K4P.prm k j)), L, rfl, by rw [← ints_vL]; exact SqT.of e5, eL5, (fun p hp => sameT sN (hL p hp)), by omega, fun L' g1 g2 => ?_⟩
          obtain ⟨n', m', o'⟩ := set_step g1 g2 hn hm
          refine ⟨fun c o hc h => by rw [upd_ne hc]; exact sN _ _ (b4 _ _ hc h), L', upd_same, n', fun p' hp' => sqT_set (P := P) (w := w) ?_ eL5, fun r => ?_⟩
          · rcases o' p' hp' with z | z
            · exact sameT sN (hL p' z)
            · rw [z]
              show SqT K H5 p ((zs (names x.1 (K4P.prm k j))).map V.int)
              rw [← ints_vL]
              exact SqT.of e5
          · rw [m' r, List.range_succ, List.map_append, List.map_append, List.map_append, List.map_append, List.append_assoc]
            rfl
        · rintro H4 ⟨b4, L, eL, hn, hL, hm⟩
          refine ⟨b4, L, eL, hn, hL, fun r => ?_⟩
          rw [hm r, take_succ' hx, List.flatMap_append]
          simp
      · rintro H3 ⟨b3, L, eL, hn, hL, hm⟩
        rw [List.length_map, List.take_length, ← hgen] at hm
        refine ⟨D2, L, max 1 k, 4, rfl, eL, hL, by omega, fun p hp => ?_, fun L' p pm nd few pw hp => ?_⟩
        · obtain ⟨y, hy, ey⟩ := List.mem_map.mp ((hpm p.2).mp ((hm p.2).mp (List.mem_map_of_mem hp)))
          rcases Nat.eq_zero_or_pos k with z | z
          · subst z
            rw [pats_zero] at hy
            cases hy
          · obtain ⟨yl, yx⟩ := pats_mem z h4 hy
            rw [← ey]
            refine ⟨by rw [List.length_map, yl]; omega, fun m hm' => ?_⟩
            obtain ⟨v, hv, rfl⟩ := List.mem_map.mp hm'
            have := yx v hv
            exact ⟨by omega, by omega⟩
        · have hD3 : H p = none := by
            cases e : H p with
            | none => rfl
            | some o =>
              have := b3 _ _ (ne_of_none e hD20) (s2 _ _ e)
              rw [hp] at this
              cases this
          have eq : L'.map (·.2) = (pats k).map zs := sorted_pats h4 nd (List.pairwise_map.mpr pw) fun r => by rw [(pm.map (·.2)).mem_iff, hm r, hpm r]
          have s3 : Same H H3 := fun c o h => b3 _ _ (ne_of_none h hD20) (s2 _ _ h)
          refine q _ p (L'.map (·.1)) hD3 (s3.trans (same_new hp)) (by rw [upd_same, List.map_map]; rfl) ⟨?_, fun i r g h1 h2 => ?_⟩
          · rw [List.length_map, ← List.length_map (f := (·.2)), eq, List.length_map]
          · rw [List.getElem?_map] at h1
            cases e : L'[i]? with
            | none => rw [e] at h1; cases h1
            | some z =>
              rw [e] at h1
              have h1 : z.1 = r := Option.some.inj h1
              have h3 : (L'.map (·.2))[i]? = some z.2 := by rw [List.getElem?_map, e]; rfl
              rw [eq, List.getElem?_map, h2] at h3
              have h3 : zs g = z.2 := Option.some.inj h3
              have hz := hL z (pm.mem_iff.mp (List.mem_of_getElem? e))
              rw [← h3, ← ints_vL, h1] at hz
              exact sameT (same_new hp) hz
end
end K4
end
section
namespace K4
open PySem L2
theorem for_enum {K : PySem.W.Frag} {a : Addr} {xs : List V} {g : TG} {tb : TS} {D : Ends} {σ : L2.St} {H : Hp} (Pv : Nat → L2.St → Hp → Prop) (h0 : Pv 0 σ H) (hl : ∀ i σ H, i ≤ xs.length → Pv i σ H → SqL K H a xs)
    (hs : ∀ (i : Nat) (x : V) (T : Addr) (σ : L2.St) (H : Hp), xs[i]? = some x → Pv i σ H → H T = none → g (.ref T) σ (upd H T (.tup [.int (i : Nat), x])) fun σ2 H2 => tb { D with nx := Pv (i + 1), ct := Pv (i + 1), bk := D.nx } σ2 H2) (hd : ∀ σ H, Pv xs.length σ H → D.nx σ H) :
    ∃ W : Nat → Nat → L2.St → Hp → Prop, (∃ m, W 0 m σ H) ∧ ∀ i m σ H, W i m σ H →
      ((Ite K a).stop i H ∧ D.nx σ H) ∨ ((Ite K a).go i H ∧ ∃ N : L2.St → Hp → Prop, (∀ σ' H', N σ' H' → ∃ m', m' < m ∧ W (i + 1) m' σ' H') ∧ ∀ v H', (Ite K a).yld i H v H' → g v σ H' fun σ2 H2 => tb { D with nx := N, ct := N, bk := D.nx } σ2 H2) := by
  refine ⟨fun i m σ H => m = xs.length - i ∧ i ≤ xs.length ∧ Pv i σ H, ⟨xs.length, rfl, Nat.zero_le _, h0⟩, ?_⟩
  rintro i m σ H ⟨rfl, hi, p⟩
  have q := hl i σ H hi p
  by_cases hlt : i < xs.length
  · refine .inr ⟨⟨xs, xs[i], q, List.getElem?_eq_getElem hlt⟩, Pv (i + 1), fun σ' H' p' => ⟨xs.length - (i + 1), by omega, rfl, hlt, p'⟩, fun v H' y => ?_⟩
    obtain ⟨T, x, rfl, hT, rfl, hx⟩ := y
    exact hs i x T σ H (hx xs q) p hT
  · have e : i = xs.length := by omega
    subst e
    exact .inl ⟨⟨xs, q, Nat.le_refl _⟩, hd σ H p⟩
theorem vals_same : ∀ {xs : List V} {us : List Value}, xs.length = us.length → (∀ (j : Nat) x u, xs[j]? = some x → us[j]? = some u → RelV x u) → Vals xs us
  | [], [], _, _ => .nil
  | [], _ :: _, h, _ => by cases h
  | _ :: _, [], h, _ => by cases h
  | x :: xs, u :: us, h, k => .cons (k 0 x u rfl rfl) (vals_same (Nat.succ.inj h) fun j y v a b => k (j + 1) y v a b)
def tListVals (te : TE) : TE := fun σ H Q => te σ H fun x H1 => ∃ (d : Addr) (kvs : List (Key × V)), x = .ref d ∧ H1 d = some (.dK kvs) ∧ ∀ p, H1 p = none → Q (.ref p) (upd H1 p (.lst (kvs.map (·.2))))
open PySem.Spec PyProof.Rows in
/-- list(d.values()) -/
theorem pe_listVals {X : Cx} {e : Expr} {te : TE} {p pos apos cpos : Pos} (hc : X.calm = true) (he : PE X e te) (hg : Gl X "list") (hm : X.mg "list" = none) (hv : bootBuiltins "list" = some (.type "list")) (hbase : attributeBase e "values" X.env (eval e X.env) = eval e X.env := by rfl) (hline : (apos.endLine == cpos.line) = true := by rfl)
    (hs : starEach [.Call (.Attribute e "values" apos) [] [] cpos] X.env = (false, eval (.Call (.Attribute e "values" apos) [] [] cpos) X.env) :: starEach [] X.env := by rfl) :
    PE X (.Call (.Name "list" p) [.Call (.Attribute e "values" apos) [] [] cpos] [] pos) (tListVals te) := by
  refine ⟨fun pins s σ H Q I hq => ?_⟩
  refine wpAny_Call_Name_kw (ld_blt I hg hm hv ?_)
  refine PyProof.Rows.callWith_type1 ?_ hs rfl
  rw [hs]
  show wpAny _ _ (spliced ((false, eval (.Call (.Attribute e "values" apos) [] [] cpos) X.env) :: backTo pos (starEach [] X.env))) _ _ s
  refine Calls.spliced_cons ?_
  refine wpAny_Call_method (T := "dict") (id := "dict.values") hbase rfl hline F.plainAttrs_dict F.slot_dict_values F.type_dict_values (thn (he.run pins s σ H _ I hq) fun u s1 ⟨x, H1, I1, rx, d, kvs, ex, hd, q⟩ => ?_)
  subst ex
  obtain rfl : u = Value.ref d := rx
  obtain ⟨hz, hs0, vs, kv, hdo⟩ := I1.hok d _ hd
  obtain ⟨ep, hat⟩ := hdo.dictAt
  have lk : kvs.length = vs.length := Paired.length kv
  have I2 : L2.Inv X pins σ H1 { s1 with heap := s1.heap.push { cls := .type "dict_values", data := .fields #[.ref d] } } := I1.kept (t' := s1.toks) fun b ob q => Heap.get?_push_of_some _ q
  refine ⟨hdo.typeIs, hdo.mapOf.noDict, ?_⟩
  show wpAny _ _ (callWith cpos (.builtin "dict.values") [.ref d] [] []) _ X.xe s1
  refine method_meetsIn F.slot_dict_values F.entry_dict_values rfl (PySem.evalArgs_none ⟨rfl, hdo.typeIs, F.args_dict_values_1 _, _, meets_dict_values (mixKind X.prog X.w) d hs0, ⟨vs, hdo⟩, ?_⟩)
  refine Calls.spliced_nil ?_
  refine PySem.W.kdl_call (PySem.W.kdl_values (r := s1.heap.objs.size) (d := d) (knd := mixKind X.prog X.w) (kvs := vs) (ep := ep)) (I1.ok.hd hc) ⟨⟨_, Heap.get?_push_size _ rfl, rfl, rfl⟩, hat.push _⟩ (by omega) fun h' tk acc c hk hS hacc => ?_
  have hl : acc.size = vs.length := hacc.1
  refine ⟨.ref _, _, I2.laid (t' := tk) hk (Nat.le_refl _) (show ObjOk X.prog X.w _ _ _ (.lst (kvs.map (·.2))) from ⟨?_, acc.toList, c, vals_same ?_ fun j x u h1 h2 => ?_, ?_⟩), rfl, q _ (I2.hok.fresh (Nat.le_refl _))⟩
  · rw [List.length_map]; exact hz
  · rw [List.length_map, lk, ← hl]
    simp
  · obtain ⟨k, hk2⟩ := hacc.2 j u (by rw [← h2, Array.getElem?_toList])
    obtain ⟨y, h3, h4⟩ := KV.at' kv hk2
    rw [List.getElem?_map, h3] at h1
    cases h1
    exact h4
  · rw [Array.toArray_toList]; exact hS
/-! the groups' dict -/
abbrev ksOf (L : List Nat) (i : Nat) : List Nat := (List.range i).filter fun k => decide (L.getD k 0 = k)
abbrev kvOf (ad : Nat → Addr) (ks : List Nat) : List (Key × V) := ks.map fun k => (.inl ((k : Nat) : Int), .ref (ad k))
theorem valV_kv (ad : Nat → Addr) (l : Nat) : ∀ ks : List Nat, valV (kvOf ad ks) (.inl ((l : Nat) : Int)) = if l ∈ ks then some (.ref (ad l)) else none
  | [] => rfl
  | k :: ks => by
    have ih := valV_kv ad l ks
    unfold valV at ih ⊢
    show ((((Sum.inl ((k : Nat) : Int) : Key), V.ref (ad k)) :: kvOf ad ks).find? fun kv => decide (kv.1 = .inl ((l : Nat) : Int))).map (·.2) = _
    rw [List.find?_cons]
    by_cases c : k = l
    · subst c
      simp
    · have h : decide ((Sum.inl ((k : Nat) : Int) : Key) = .inl ((l : Nat) : Int)) = false := decide_eq_false fun e => c (by have := Sum.inl.inj e; omega)
      rw [h]
      dsimp only
      rw [ih]
      by_cases d : l ∈ ks
      · rw [if_pos d, if_pos (List.mem_cons_of_mem _ d)]
      · rw [if_neg d, if_neg fun z => (List.mem_cons.mp z).elim (fun e => c e.symm) d]
theorem putK_kv (ad : Nat → Addr) (l : Nat) (z : V) {ks : List Nat} (h : l ∉ ks) : putK (kvOf ad ks) (.inl ((l : Nat) : Int)) z = kvOf ad ks ++ [(.inl ((l : Nat) : Int), z)] := by
  unfold putK
  rw [if_neg]
  intro c
  obtain ⟨x, hx, e⟩ := List.any_eq_true.mp c
  obtain ⟨k, hk, rfl⟩ := List.mem_map.mp hx
  have e := of_decide_eq_true e
  have := Sum.inl.inj e
  exact h (by rw [show l = k by omega]; exact hk)
theorem kvOf_new {ad : Nat → Addr} {ks : List Nat} {i : Nat} {D : Addr} (h : i ∉ ks) : kvOf ad ks ++ [(.inl ((i : Nat) : Int), .ref D)] = kvOf (fun x => if x = i then D else ad x) (ks ++ [i]) := by
  rw [kvOf, kvOf, List.map_append]
  congr 1
  · refine List.map_congr_left fun k hk => ?_
    rw [if_neg fun e => h (by rw [← e]; exact hk)]
  · simp
theorem merge_same (L : List Nat) (x : Nat) : merge L x x = L := by
  unfold merge
  rw [Nat.max_self, Nat.min_self]
  conv => rhs; rw [← List.map_id L]
  exact List.map_congr_left fun l _ => by
    by_cases c : l = x
    · rw [if_pos c]; exact c.symm
    · rw [if_neg c]; rfl
section
variable {P : Program} {w : World} {K : PySem.W.Frag} {mg : Str → Option Value} {base : Heap} {a : Ad}
abbrev s_check_image : Stmt := topS 8
abbrev N_check_image : List Str := ["image", "size", "record", "name"]
theorem sc_check_image : FnScope N_check_image ["image"] (defScope s_check_image) := ⟨rfl, rfl, rfl, by decide +kernel, rfl, by decide +kernel, by decide +kernel⟩
def spCheck (K : PySem.W.Frag) : Sp := fun vs H Q _ => ∃ (ia : Addr) (im : List Nat), vs = [.ref ia] ∧ SqL K H ia (vL im) ∧ Good im ∧ im.length ≤ 64 ∧ ∀ H', Same H H' → Q .non H'
theorem B_check_image (T : Txt K mg a) : Binds K (a.fd 8) ["image"] [] := T.f_check_image.binds fun _ _ _ _ _ _ us hl => match us, hl with | [_], _ => rfl
theorem G_check_image (T : Txt K mg a) : FnOk P w K mg base CX0 1 (a.f 8) (a.fd 8) ["image"] (spCheck K) := by
  refine T.f_check_image.ok sc_check_image (fun vs H Q E h => ?_) (fun cdv A outer s H vs Q E hr h => ?_)
  · obtain ⟨_, _, rfl, _⟩ := h
    rfl
  · obtain ⟨ia, im, rfl, hS, good, hn, q⟩ := h
    refine ⟨_, (pss_cons (ps_set (i := 1) sc_check_image.nd rfl (Or.inl rfl) (pe_callB call_len_seq (by rfl) T.n_len (by decide +kernel) (pa_cons (pv 0) pa_nil)))
      (pss_one (ps_for PassesOwn.never rfl (pi_enum (by rfl) T.n_enumerate (pa_cons (pv 0) pa_nil)) (pg_tup rfl (pgs_cons (pg_name (i := 2) sc_check_image.nd rfl (Or.inl rfl)) (pgs_cons (pg_name (i := 3) sc_check_image.nd rfl (Or.inl rfl)) pgs_nil)))
        (pss_one (ps_if (PW.pt (pw_or (pt_cmpR op_lt (pv 3) pe_int (nomark _)) (pw_or1 (pt_cmpR op_ge (pv 3) (pv 1) (nomark _)))))
          (pss_one ps_never)
          pss_nil))))), ?_⟩
    have vl : (vL im).length = im.length := by rw [vL, List.length_map]
    refine ⟨_, rfl, _, _, rfl, .inl hS, _, rfl, ia, _, rfl, hS, for_enum (K := K) (xs := vL im) (fun i σ H' => Same H H' ∧ ∃ x y, σ = [some (.ref ia), some (.int ((vL im).length : Int)), x, y]) ⟨Same.refl _, none, none, rfl⟩ (fun i σ H' _ z => Same.seq z.1 hS) ?_ ?_⟩
    · rintro i xv T2 σ H2 hi ⟨s2, x, y, rfl⟩ hT
      obtain ⟨m, hm, rfl⟩ := nat_at hi
      have hml := good m (List.mem_of_getElem? hm)
      refine ⟨T2, _, rfl, SqT.of upd_same, rfl, _, _, rfl, _, _, rfl, rfl, ?_⟩
      refine ⟨_, rfl, _, _, rfl, rfl, _, rfl, ite2 (fun c => ?_) (fun c => ?_)⟩
      · have c : ((m : Nat) : Int) < 0 := of_decide_eq_true c
        omega
      · refine ⟨_, rfl, _, rfl, _, _, rfl, rfl, _, rfl, ite2 (fun c => ?_) (fun c => ⟨s2.trans (same_new hT), _, _, rfl⟩)⟩
        have c : ((vL im).length : Int) ≤ ((m : Nat) : Int) := of_decide_eq_true c
        rw [vl] at c
        omega
    · rintro σ H2 ⟨s2, x, y, rfl⟩
      exact q H2 s2
abbrev s_groups : Stmt := topS 9
abbrev N_groups : List Str := ["image", "labels", "record", "name", "least", "merged", "found", "label"]
theorem sc_groups : FnScope N_groups ["image"] (defScope s_groups) := ⟨rfl, rfl, rfl, by decide +kernel, rfl, by decide +kernel, by decide +kernel⟩
def spGroups (K : PySem.W.Frag) : Sp := fun vs H Q _ => ∃ (ia : Addr) (im : List Nat), vs = [.ref ia] ∧ SqL K H ia (vL im) ∧ Good im ∧ im.length ≤ 64 ∧
  ∀ H' p rs, H p = none → Same H H' → H' p = some (.lst (rs.map V.ref)) → (∀ r ∈ rs, H r = none) → Lsts H' rs (gps (labs im im.length)) → Q (.ref p) H'
theorem B_groups (T : Txt K mg a) : Binds K (a.fd 9) ["image"] [] := T.f_groups.binds fun _ _ _ _ _ _ us hl => match us, hl with | [_], _ => rfl
theorem G_groups (T : Txt K mg a) : FnOk P w K mg base CX0 2 (a.f 9) (a.fd 9) ["image"] (spGroups K) := by
  refine T.f_groups.ok sc_groups (fun vs H Q E h => ?_) (fun cdv A outer s H vs Q E hr h => ?_)
  · obtain ⟨_, _, rfl, _⟩ := h
    rfl
  · obtain ⟨ia, im, rfl, hS, good, hn, q⟩ := h
    refine ⟨_, (pss_cons (ps_expr (pe_call (G_check_image T) (hr.mono (by decide)) rfl T.m_check_image T.f_check_image.kp (B_check_image T) .nil pass0 (pa_cons (pv 0) pa_nil)))
      (pss_cons (ps_set (i := 1) sc_groups.nd rfl (Or.inl rfl) (pe_listRg rfl rfl T.n_list (prg_1 rfl T.n_range (pe_callB call_len_seq (by rfl) T.n_len (by decide +kernel) (pa_cons (pv 0) pa_nil)))))
      (pss_cons (ps_for PassesOwn.never rfl (pi_enum (by rfl) T.n_enumerate (pa_cons (pv 0) pa_nil)) (pg_tup rfl (pgs_cons (pg_name (i := 2) sc_groups.nd rfl (Or.inl rfl)) (pgs_cons (pg_name (i := 3) sc_groups.nd rfl (Or.inl rfl)) pgs_nil)))
        (pss_cons (ps_set (i := 4) sc_groups.nd rfl (Or.inr rfl) (pe_callB (call_min2 rfl) (by rfl) T.n_min (by decide +kernel) (pa_cons (pe_ix ix_list (pv 1) (pv 2) (fun _ _ => rfl)) (pa_cons (pe_ix ix_list (pv 1) (pv 3) (fun _ _ => rfl)) pa_nil))))
        (pss_cons (ps_set (i := 5) sc_groups.nd rfl (Or.inr rfl) (pe_callB (call_max2 rfl) (by rfl) T.n_max (by decide +kernel) (pa_cons (pe_ix ix_list (pv 1) (pv 2) (fun _ _ => rfl)) (pa_cons (pe_ix ix_list (pv 1) (pv 3) (fun _ _ => rfl)) pa_nil))))
        (pss_one (ps_if (pt_cmpR op_ne (pv 4) (pv 5) (nomark _))
          (pss_one (ps_setLc (i := 1) (own := [("label", 7)]) (g := gName 7) rfl sc_groups.nd rfl rfl (sw_true rfl rfl rfl (by decide +kernel)) (pi_list (pv 1)) (blkOk_by (own := [("label", 7)]) (N := N_groups) (sc := defScope s_groups) (by decide +kernel)) (fun _ _ _ _ _ => pg_name (i := 7) sc_groups.nd rfl (Or.inl rfl)) (fun _ _ _ _ _ => pts_nil) (fun _ _ _ _ _ => (pe_ifExp (pt_cmpR op_eq (pv 7) (pv 5) (nomark _)) (pv 4) (pv 7)))))
          pss_nil)))))
      (pss_cons (ps_set (i := 6) sc_groups.nd rfl (Or.inl rfl) pe_dnewK)
      (pss_cons (ps_for PassesOwn.never rfl (pi_enum (by rfl) T.n_enumerate (pa_cons (pv 1) pa_nil)) (pg_tup rfl (pgs_cons (pg_name (i := 2) sc_groups.nd rfl (Or.inl rfl)) (pgs_cons (pg_name (i := 7) sc_groups.nd rfl (Or.inl rfl)) pgs_nil)))
        (pss_one (ps_expr (pe_bm PySem.F.plainAttrs_list PySem.F.slot_list_append PySem.F.type_list_append mt_append (pe_dsetd (pv 6) (pv 7) (pe_lst pa_nil) ⟨rfl, rfl, rfl, rfl⟩) (pa_cons (pv 2) pa_nil)))))
      (pss_one (ps_ret (pe_listVals rfl (pv 6) (by rfl) T.n_list (by decide +kernel))))))))), ?_⟩
    have vl : (vL im).length = im.length := by rw [vL, List.length_map]
    refine ⟨_, rfl, ia, im, rfl, hS, good, hn, fun H0 s0 => ?_⟩
    refine ⟨_, rfl, _, _, rfl, .inl (Same.seq s0 hS), _, rfl, by rw [vl]; exact RgOk.nat (by omega), fun p0 hp0 => ?_⟩
    rw [vl, rgV_nat]
    have s1 : Same H (upd H0 p0 (.lst (vL (List.range im.length)))) := s0.trans (same_new hp0)
    refine ⟨_, rfl, ia, _, rfl, Same.seq s1 hS, for_enum (K := K) (xs := vL im) (fun i σ H' => Same H H' ∧ ∃ lp x2 x3 x4 x5, H' lp = some (.lst (vL (labs im i))) ∧ σ = [some (.ref ia), some (.ref lp), x2, x3, x4, x5, none, none]) ⟨s1, p0, none, none, none, none, by rw [labs_zero]; exact upd_same, rfl⟩ (fun i σ H' _ z => Same.seq z.1 hS) ?_ ?_⟩
    · rintro i xv T2 σ H2 hi ⟨s2, lp, x2, x3, x4, x5, e2, rfl⟩ hT
      obtain ⟨m, hm, rfl⟩ := nat_at hi
      have hml := good m (List.mem_of_getElem? hm)
      have hil : i < im.length := (List.getElem?_eq_some_iff.mp hm).1
      have em : im.getD i 0 = m := by simp [List.getD_eq_getElem?_getD, hm]
      have ll := labs_len im i
      have s2' := s2.trans (same_new (o := .tup [V.int (i : Nat), vN m]) hT)
      have e2' := (same_new (o := .tup [V.int (i : Nat), vN m]) hT) _ _ e2
      refine ⟨T2, _, rfl, SqT.of upd_same, rfl, _, _, rfl, _, _, rfl, rfl, ?_⟩
      refine ⟨_, rfl, _, rfl, lp, _, _, _, rfl, rfl, SqL.of e2', vL_at (by omega), _, rfl, _, rfl, lp, _, _, _, rfl, rfl, SqL.of e2', vL_at (by omega), _, _, rfl, ?_⟩
      refine ⟨_, rfl, _, rfl, lp, _, _, _, rfl, rfl, SqL.of e2', vL_at (by omega), _, rfl, _, rfl, lp, _, _, _, rfl, rfl, SqL.of e2', vL_at (by omega), _, _, rfl, ?_⟩
      have hmg : labs im (i + 1) = merge (labs im i) ((labs im i).getD i 0) ((labs im i).getD m 0) := by
        rw [labs_succ, mrg, em]
      generalize (labs im i).getD i 0 = A at hmg ⊢
      generalize (labs im i).getD m 0 = B at hmg ⊢
      refine ⟨_, rfl, _, rfl, rfl, _, rfl, ite2 (fun c => ?_) (fun c => ?_)⟩
      · refine ⟨_, rfl, lp, rfl, ⟨_, SqL.of e2'⟩, fun D hD => lc_natL (K := K) (l := labs im i) (f := fun l => if l = max A B then min A B else l) (p := fun _ => true) hD (SqL.of e2') (by omega) (fun _ => rfl) (fun m hm H' Q' _ z => z) (fun m' hm' _ H' Q' s' z => ?_) fun H3 s3 e3 => ?_⟩
        · refine ⟨_, rfl, _, rfl, rfl, _, rfl, ite2 (fun d => ?_) (fun d => ?_)⟩
          · rw [max_cast] at d
            have d := int_eq d
            rw [if_pos d] at z
            refine ⟨_, rfl, ?_⟩
            show Q' (V.int _) H'
            rw [min_cast]
            exact z
          · rw [max_cast] at d
            have d := int_ne d
            rw [if_neg d] at z
            exact ⟨_, rfl, z⟩
        · rw [filter_true] at e3
          refine ⟨s2'.trans s3, D, _, _, _, _, ?_, rfl⟩
          rw [hmg]
          exact e3
      · rw [min_cast, max_cast] at c
        have c : ¬ (!decide (V.int ((min A B : Nat) : Int) = V.int ((max A B : Nat) : Int))) = true := c
        have e : min A B = max A B := by
          rcases Decidable.em (min A B = max A B) with h | h
          · exact h
          · exact absurd (by rw [decide_eq_false (fun z => h (by have := V.int.inj z; omega))]; rfl) c
        have eAB : A = B := by omega
        subst eAB
        refine ⟨s2', lp, _, _, _, _, ?_, rfl⟩
        rw [hmg, merge_same]
        exact e2'
    · rintro σ H2 ⟨s2, lp, x2, x3, x4, x5, e2, rfl⟩
      rw [vl] at e2
      have LB := labs_lab good im.length (Nat.le_refl _)
      generalize labs im im.length = L at e2 q LB
      have hLl := LB.len
      intro fp hfp
      have hf0 : H fp = none := s2.free hfp
      have nlf : lp ≠ fp := ne_of_none e2 hfp
      refine ⟨_, rfl, lp, _, rfl, SqL.of (by rw [upd_ne nlf]; exact e2), for_enum (K := K) (xs := vL L) (fun i σ H' => Same H H' ∧ H' lp = some (.lst (vL L)) ∧ ∃ ad x2 x3 x7, H' fp = some (.dK (kvOf ad (ksOf L i))) ∧ (∀ k ∈ ksOf L i, H' (ad k) = some (.lst (vL ((List.range i).filter fun x => decide (L.getD x 0 = k)))) ∧ H (ad k) = none ∧ ad k ≠ lp) ∧
        (∀ k ∈ ksOf L i, ∀ k' ∈ ksOf L i, ad k = ad k' → k = k') ∧ σ = [some (.ref ia), some (.ref lp), x2, x3, x4, x5, some (.ref fp), x7]) ⟨s2.trans (same_new hfp), by rw [upd_ne nlf]; exact e2, fun _ => 0, x2, x3, none, upd_same, (fun k h => by cases h), (fun k h => by cases h), rfl⟩ (fun i σ H' _ z => SqL.of z.2.1) ?_ ?_⟩
      · rintro i xv T2 σ H3 hi ⟨s3, e3, ad, x2, x3, x7, f3, hk3, inj, rfl⟩ hT
        obtain ⟨l, hl, rfl⟩ := nat_at hi
        have hil : i < L.length := (List.getElem?_eq_some_iff.mp hl).1
        have el : L.getD i 0 = l := by simp [List.getD_eq_getElem?_getD, hl]
        have hle := LB.le i (by omega)
        have hid := LB.idem i (by omega)
        rw [el] at hle hid
        have sT := same_new (o := .tup [V.int (i : Nat), vN l]) hT
        refine ⟨T2, _, rfl, SqT.of upd_same, rfl, _, _, rfl, _, _, rfl, rfl, ?_⟩
        refine ⟨_, rfl, fp, rfl, .inl ⟨_, .inl (sT _ _ f3)⟩, _, rfl, by decide, fun D hD => ?_⟩
        have sD := sT.trans (same_new (o := .lst []) hD)
        have fD := sD _ _ f3
        have eD := sD _ _ e3
        have hD3 : H3 D = none := sT.free hD
        have kslen : (ksOf L i).length ≤ 64 := Nat.le_trans (List.length_filter_le _ _) (by rw [List.length_range]; omega)
        refine ⟨kvOf ad (ksOf L i), .inl ((l : Nat) : Int), fD, rfl, by rw [List.length_map]; exact sz64' (by omega), fun v hv => ?_, fun hv => ?_⟩
        · rw [valV_kv] at hv
          by_cases c : l ∈ ksOf L i
          · rw [if_pos c] at hv
            cases hv
            have hli : l < i := List.mem_range.mp (List.mem_filter.mp c).1
            obtain ⟨a1, a2, a3⟩ := hk3 l c
            have aD := sD _ _ a1
            have eks : ksOf L (i + 1) = ksOf L i := by
              show (List.range (i + 1)).filter _ = _
              rw [filter_succ, el, if_neg (by rw [decide_eq_false (by omega)]; exact Bool.false_ne_true), List.append_nil]
            refine ⟨.inl ⟨rfl, _, SqL.of aD⟩, _, rfl, ad l, _, _, rfl, rfl, aD, ?_, ?_⟩
            · rw [vL, List.length_map]
              exact sz64' (Nat.le_trans (List.length_filter_le _ _) (by rw [List.length_range]; omega))
            · have nfl : fp ≠ ad l := fun e => by rw [← e, f3] at a1; cases a1
              refine ⟨fun b o h => ?_, by rw [upd_ne (Ne.symm a3)]; exact eD, ad, _, _, _, ?_, ?_, ?_, rfl⟩
              · rw [upd_ne (ne_of_none h a2)]
                exact sD _ _ (s3 _ _ h)
              · rw [upd_ne nfl, eks]
                exact fD
              · rw [eks]
                intro k hk
                obtain ⟨b1, b2, b3⟩ := hk3 k hk
                refine ⟨?_, b2, b3⟩
                rw [filter_succ, el]
                by_cases d : k = l
                · subst d
                  rw [upd_same, if_pos (decide_eq_true rfl), vL_app]
                · rw [upd_ne (fun e => d (inj k hk l c e)), if_neg (by rw [decide_eq_false (fun e => d e.symm)]; exact Bool.false_ne_true), List.append_nil]
                  exact sD _ _ b1
              · rw [eks]
                exact inj
          · rw [if_neg c] at hv
            cases hv
        · rw [valV_kv] at hv
          have c : l ∉ ksOf L i := fun c => by rw [if_pos c] at hv; cases hv
          have li : l = i := by
            rcases Nat.lt_or_ge l i with z | z
            · exact absurd (List.mem_filter.mpr ⟨List.mem_range.mpr z, decide_eq_true hid⟩) c
            · omega
          subst li
          rw [putK_kv ad l _ c, kvOf_new c]
          have nfD : D ≠ fp := fun e => by rw [e, f3] at hD3; cases hD3
          have aD : (upd (upd (upd H3 T2 (.tup [V.int (l : Nat), vN l])) D (.lst [])) fp (.dK (kvOf (fun x => if x = l then D else ad x) (ksOf L l ++ [l])))) D = some (.lst []) := by
            rw [upd_ne nfD]
            exact upd_same
          have eks : ksOf L (l + 1) = ksOf L l ++ [l] := by
            show (List.range (l + 1)).filter _ = _
            rw [filter_succ, el, if_pos (decide_eq_true rfl)]
          have hln : lp ≠ D := ne_of_none e3 hD3
          refine ⟨.inl ⟨rfl, _, SqL.of aD⟩, _, rfl, D, _, _, rfl, rfl, aD, by decide, ?_⟩
          refine ⟨fun b o h => ?_, ?_, (fun x => if x = l then D else ad x), _, _, _, ?_, ?_, ?_, rfl⟩
          · rw [upd_ne (ne_of_none (s3 _ _ h) hD3), upd_ne (ne_of_none h hf0)]
            exact sD _ _ (s3 _ _ h)
          · rw [upd_ne hln, upd_ne nlf]
            exact eD
          · rw [upd_ne (Ne.symm nfD), upd_same, eks]
          · rw [eks]
            intro k hk
            rcases List.mem_append.mp hk with z | z
            · have hkl : k < l := List.mem_range.mp (List.mem_filter.mp z).1
              obtain ⟨b1, b2, b3⟩ := hk3 k z
              have n1 : ad k ≠ D := ne_of_none b1 hD3
              have n2 : ad k ≠ fp := fun e => by rw [e, f3] at b1; cases b1
              dsimp only
              rw [if_neg (by omega)]
              refine ⟨?_, b2, b3⟩
              rw [upd_ne n1, upd_ne n2, filter_succ, el, if_neg (by rw [decide_eq_false (by omega)]; exact Bool.false_ne_true), List.append_nil]
              exact sD _ _ b1
            · rw [List.mem_singleton.mp z]
              dsimp only
              rw [if_pos rfl]
              refine ⟨?_, s3.free hD3, Ne.symm hln⟩
              rw [upd_same, filter_succ, el, if_pos (decide_eq_true rfl)]
              have : (List.range l).filter (fun x => decide (L.getD x 0 = l)) = [] := by
                rw [List.filter_eq_nil_iff]
                intro x hx
                have hx := List.mem_range.mp hx
                have := LB.le x (by omega)
                rw [decide_eq_false (by omega)]
                exact Bool.false_ne_true
              rw [this]
              rfl
          · rw [eks]
            intro k hk k' hk' e
            dsimp only at e
            rcases List.mem_append.mp hk with z | z <;> rcases List.mem_append.mp hk' with z' | z'
            · have h1 : k < l := List.mem_range.mp (List.mem_filter.mp z).1
              have h2 : k' < l := List.mem_range.mp (List.mem_filter.mp z').1
              rw [if_neg (by omega), if_neg (by omega)] at e
              exact inj k z k' z' e
            · have h1 : k < l := List.mem_range.mp (List.mem_filter.mp z).1
              rw [List.mem_singleton.mp z', if_pos rfl, if_neg (by omega)] at e
              exact absurd e (ne_of_none (hk3 k z).1 hD3)
            · have h1 : k' < l := List.mem_range.mp (List.mem_filter.mp z').1
              rw [List.mem_singleton.mp z, if_pos rfl, if_neg (by omega)] at e
              exact absurd e.symm (ne_of_none (hk3 k' z').1 hD3)
            · rw [List.mem_singleton.mp z, List.mem_singleton.mp z']
      · rintro σ H3 ⟨s3, e3, ad, x2, x3, x7, f3, hk3, inj, rfl⟩
        have vL' : (vL L).length = L.length := by rw [vL, List.length_map]
        rw [vL'] at f3 hk3
        refine ⟨_, rfl, fp, _, rfl, f3, fun p hp => ?_⟩
        refine q _ p ((ksOf L L.length).map ad) (s3.free hp) (s3.trans (same_new hp)) (by rw [upd_same, List.map_map, List.map_map]; rfl) (fun r hr' => ?_) ⟨?_, fun i r g h1 h2 => ?_⟩
        · obtain ⟨k, hk, rfl⟩ := List.mem_map.mp hr'
          exact (hk3 k hk).2.1
        · rw [List.length_map]
          unfold gps
          rw [List.length_map]
        · unfold gps at h2
          rw [List.getElem?_map] at h1 h2
          cases e : (ksOf L L.length)[i]? with
          | none => rw [e] at h1; cases h1
          | some k =>
            have e' : ((List.range L.length).filter fun k => decide (L.getD k 0 = k))[i]? = some k := e
            rw [e] at h1
            rw [e'] at h2
            cases h1
            cases h2
            exact (same_new hp) _ _ (hk3 k (List.mem_of_getElem? e)).1
end
end K4
end
section
namespace K4
open PySem L2
theorem at_lastD {l : List Nat} (h : l ≠ []) : atI (vL l) (-1) = some (vN (lastD l)) := by
  have e : l = l.dropLast ++ [l.getLast h] := (List.dropLast_concat_getLast h).symm
  have e2 : lastD l = l.getLast h := by
    unfold lastD
    have : 0 < l.length := List.length_pos_iff.mpr h
    rw [getD_in (by omega), List.getLast_eq_getElem]
  rw [e2]
  conv => lhs; rw [e]
  exact at_last
theorem idx_before : ∀ (l : List Nat) (v m z : Nat), m < l.idxOf v → l[m]? = some z → z ≠ v
  | [], _, _, _, h, _ => absurd h (by simp)
  | x :: l, v, m, z, h, e => by
    rw [List.idxOf_cons] at h
    by_cases c : x = v
    · rw [beq_iff_eq.mpr c] at h
      exact absurd h (Nat.not_lt_zero _)
    · rw [beq_false_of_ne c] at h
      cases m with
      | zero => cases e; exact c
      | succ m => exact idx_before l v m z (Nat.lt_of_succ_lt_succ h) e
theorem if_val {c : Bool} {t1 t2 : TE} {σ : L2.St} {H : Hp} {Q : VK} {v : V} (h : Q v H) (h1 : c = true → ∀ Q' : VK, Q' v H → t1 σ H Q') (h2 : c = false → ∀ Q' : VK, Q' v H → t2 σ H Q') : if c = true then t1 σ H Q else t2 σ H Q := by
  cases c with
  | true => exact iteT (h1 rfl Q h)
  | false => exact iteF (h2 rfl Q h)
theorem filt_not (l s : List Nat) : (l.filter fun m => !decide (m ∈ s)).map (fun m => m) = l.filter fun m => decide (m ∉ s) := by
  rw [List.map_id']
  exact List.filter_congr fun x _ => by simp
theorem shGet_str {xs : ShX} {l : List Nat} (h : l ∈ xs.map (·.1)) : ∃ w, shGet xs l = .str w := by
  unfold shGet
  obtain ⟨q, hq, rfl⟩ := List.mem_map.mp h
  cases e : xs.find? (fun x => decide (x.1 = q.1)) with
  | some z => exact ⟨_, rfl⟩
  | none =>
    have := List.find?_eq_none.mp e q hq
    simp at this
theorem eqV_nat (x y : Nat) : eqV (vN x) (vN y) = decide (x = y) := by
  show (((x : Nat) : Int) == ((y : Nat) : Int)) = _
  rw [Bool.eq_iff_iff]
  simp
  omega
theorem rIndex_nat {K : PySem.W.Frag} {H : Hp} {a : Addr} {l : List Nat} {v : Nat} {Q : VK} (hS : SqL K H a (vL l)) (hv : v ∈ l) (q : Q (vN (l.idxOf v)) H) : rIndex K (.ref a) [vN v] H Q := by
  obtain ⟨h1, h2⟩ := idx_get hv
  refine ⟨a, vL l, vN v, l.idxOf v, vN v, rfl, rfl, hS, rfl, flat_vL _, ?_, ?_, fun m z' hm hz => ?_, q⟩
  · rw [vL_get h1, h2]
  · rw [eqV_nat]; exact decide_eq_true rfl
  · obtain ⟨y, hy, rfl⟩ := nat_at hz
    rw [eqV_nat]
    exact decide_eq_false (idx_before l v m y hm hy)
section
variable {P : Program} {w : World} {K : PySem.W.Frag} {mg : Str → Option Value} {base : Heap} {a : Ad}
abbrev s_walk : Stmt := topS 13
abbrev N_walk : List Str := ["image", "start", "path"]
theorem sc_walk : FnScope N_walk ["image", "start"] (defScope s_walk) := ⟨rfl, rfl, rfl, by decide +kernel, rfl, by decide +kernel, by decide +kernel⟩
def spWalk (K : PySem.W.Frag) : Sp := fun vs H Q _ => ∃ (ia : Addr) (im : List Nat) (s : Nat), vs = [.ref ia, vN s] ∧ SqL K H ia (vL im) ∧ Good im ∧ s < im.length ∧ im.getD (lastD (walkP im 4 [s])) 0 ∈ walkP im 4 [s] ∧
  ∀ H' p, H p = none → Same H H' → H' p = some (.lst (vL (walkP im 4 [s]))) → Q (.ref p) H'
theorem B_walk (T : Txt K mg a) : Binds K (a.fd 13) ["image", "start"] [] := T.f_walk.binds fun _ _ _ _ _ _ us hl => match us, hl with | [_, _], _ => rfl
theorem G_walk (T : Txt K mg a) : FnOk P w K mg base CX0 1 (a.f 13) (a.fd 13) ["image", "start"] (spWalk K) := by
  refine T.f_walk.ok sc_walk (fun vs H Q E h => ?_) (fun cdv A outer s H vs Q E hr h => ?_)
  · obtain ⟨_, _, _, rfl, _⟩ := h
    rfl
  · obtain ⟨ia, im, st, rfl, hS, good, hst, hstop, q⟩ := h
    refine ⟨_, (pss_cons (ps_set (i := 2) sc_walk.nd rfl (Or.inl rfl) (pe_lst (pa_cons (pv 1) pa_nil)))
      (pss_cons (ps_while PassesOwn.never (pt_cmpR op_notIn_seq (pe_ix ix_list (pv 0) (pe_ix ix_list (pv 2) (pe_un un_neg pe_int) (fun _ _ => rfl)) (fun _ _ => rfl)) (pv 2) (by rfl))
        (pss_one (ps_expr (pe_bm PySem.F.plainAttrs_list PySem.F.slot_list_append PySem.F.type_list_append mt_append (pv 2) (pa_cons (pe_ix ix_list (pv 0) (pe_ix ix_list (pv 2) (pe_un un_neg pe_int) (fun _ _ => rfl)) (fun _ _ => rfl)) pa_nil)))))
      (pss_one (ps_ret (pv 2))))), ?_⟩
    generalize hfin : walkP im 4 [st] = fin at hstop q
    refine ⟨_, rfl, one_le _, fun p hp => ?_⟩
    refine ⟨fun m σ H' => Same H H' ∧ ∃ P, H' p = some (.lst (vL P)) ∧ walkP im m P = fin ∧ P ≠ [] ∧ (∀ x ∈ P, x < im.length) ∧ P.length + m ≤ 5 ∧ σ = [some (.ref ia), some (vN st), some (.ref p)], ⟨4, same_new hp, [st], upd_same, hfin, by simp, (fun x hx => by rw [List.mem_singleton.mp hx]; exact hst), by simp, rfl⟩, ?_⟩
    rintro m σ H2 ⟨s2, P, e2, hw, hne, hlt, hm, rfl⟩
    have hl := hlt _ (lastD_mem hne)
    have hS2 := Same.seq s2 hS
    refine ⟨_, rfl, _, rfl, _, rfl, p, _, _, _, rfl, rfl, SqL.of e2, at_lastD hne, ia, _, _, _, rfl, rfl, hS2, vL_at hl, _, rfl, p, vL P, rfl, .inl (SqL.of e2), rfl, flat_vL _, _, rfl, ite2 (fun c => ?_) (fun c => ?_)⟩
    · have c : (!inV (vN (im.getD (lastD P) 0)) (vL P)) = true := c
      rw [inV_nat] at c
      have c : im.getD (lastD P) 0 ∉ P := by simpa using c
      cases m with
      | zero =>
        have : P = fin := hw
        rw [← this] at hstop
        exact absurd hstop c
      | succ m =>
        unfold walkP at hw
        rw [if_neg c] at hw
        refine ⟨_, fun _ _ h => h, _, rfl, .inl ⟨rfl, _, SqL.of e2⟩, _, rfl, _, rfl, _, rfl, p, _, _, _, rfl, rfl, SqL.of e2, at_lastD hne, ia, _, _, _, rfl, rfl, hS2, vL_at hl, p, _, _, rfl, rfl, e2, ?_, m, Nat.lt_succ_self _, same_mut s2 hp, P ++ [im.getD (lastD P) 0], ?_, hw, by simp, ?_, ?_, rfl⟩
        · rw [vL, List.length_map]
          exact sz64' (by omega)
        · rw [upd_same, vL_app]
        · intro x hx
          rcases List.mem_append.mp hx with z | z
          · exact hlt x z
          · rw [List.mem_singleton.mp z]
            exact good_get good hl
        · rw [List.length_append]
          simp only [List.length_cons, List.length_nil]
          omega
    · have c : ¬ (!inV (vN (im.getD (lastD P) 0)) (vL P)) = true := c
      rw [inV_nat] at c
      have c : im.getD (lastD P) 0 ∈ P := by simpa using c
      have e : P = fin := by
        cases m with
        | zero => exact hw
        | succ m =>
          unfold walkP at hw
          rw [if_pos c] at hw
          exact hw
      subst e
      exact ⟨_, rfl, q H2 p hp s2 e2⟩
abbrev s_form_of : Stmt := topS 14
abbrev N_form_of : List Str := ["image", "group", "shown", "unshown", "path", "records", "shape", "word", "record"]
theorem sc_form_of : FnScope N_form_of ["image", "group"] (defScope s_form_of) := ⟨rfl, rfl, rfl, by decide +kernel, rfl, by decide +kernel, by decide +kernel⟩
def spFormOf (K : PySem.W.Frag) : Sp := fun vs H Q _ => ∃ (ia ga : Addr) (im g : List Nat), vs = [.ref ia, .ref ga] ∧ SqL K H ia (vL im) ∧ SqL K H ga (vL g) ∧ Good im ∧ (∀ x ∈ g, x < im.length) ∧ FormOk im g ∧
  ∀ H' p rp v, H p = none → H rp = none → Same H H' → H' p = some (.tup [v, .ref rp]) → H' rp = some (.tup (vL (recsOf im g))) → Q (.ref p) H'
theorem B_form_of (T : Txt K mg a) : Binds K (a.fd 14) ["image", "group"] [] := T.f_form_of.binds fun _ _ _ _ _ _ us hl => match us, hl with | [_, _], _ => rfl
theorem G_form_of (T : Txt K mg a) : FnOk P w K mg base CX0 2 (a.f 14) (a.fd 14) ["image", "group"] (spFormOf K) := by
  refine T.f_form_of.ok sc_form_of (fun vs H Q E h => ?_) (fun cdv A outer s H vs Q E hr h => ?_)
  · obtain ⟨_, _, _, _, rfl, _⟩ := h
    rfl
  · obtain ⟨ia, ga, im, g, rfl, hS, hG, good, hlt, ok, q⟩ := h
    refine ⟨_, (pss_cons (ps_if (pt_cmpR op_gt (pe_callB call_len_seq (by rfl) T.n_len (by decide +kernel) (pa_cons (pv 1) pa_nil)) (pe_glob (v := V.int 4) rfl T.mLARGEST ⟨_, rfl⟩) (nomark _))
        (pss_one (ps_ret pe_non))
        pss_nil)
      (pss_cons (ps_set (i := 2) sc_form_of.nd rfl (Or.inr rfl) (pe_lc (own := [("record", 8)]) (g := gName 8) rfl sc_form_of.nd (pi_list (pv 1)) (blkOk_by (own := [("record", 8)]) (N := N_form_of) (sc := defScope s_form_of) (by decide +kernel)) (fun _ _ _ _ _ => pg_name (i := 8) sc_form_of.nd rfl (Or.inl rfl)) (fun _ _ _ _ _ => pts_nil) (fun _ _ _ _ _ => (pe_ix (r := rIxL K) ix_list (pv 0) (pv 8) (fun _ _ => rfl)))))
      (pss_cons (ps_setLc (i := 3) (own := [("record", 8)]) (g := gName 8) rfl sc_form_of.nd rfl rfl (sw_true rfl rfl rfl (by decide +kernel)) (pi_list (pv 1)) (blkOk_by (own := [("record", 8)]) (N := N_form_of) (sc := defScope s_form_of) (by decide +kernel)) (fun _ _ _ _ _ => pg_name (i := 8) sc_form_of.nd rfl (Or.inl rfl)) (fun _ _ _ _ _ => (pts_one (pt_cmpR (r := rIn K true) op_notIn_seq (pv 8) (pv 2) (by rfl)))) (fun _ _ _ _ _ => (pv 8)))
      (pss_cons (ps_set (i := 4) sc_form_of.nd rfl (Or.inr rfl) (pe_call (G_walk T) (hr.mono (by decide)) rfl T.m_walk T.f_walk.kp (B_walk T) .nil pass0 (pa_cons (pv 0) (pa_cons (pe_ifExp (pt_truth (pv 3) (by intro _; rfl)) (pe_ix ix_list (pv 3) pe_int (fun _ _ => rfl)) (pe_ix ix_list (pv 1) pe_int (fun _ _ => rfl))) pa_nil))))
      (pss_cons (ps_set (i := 5) sc_form_of.nd rfl (Or.inr rfl) (pe_op op_cat (pv 4) (pe_lc (own := [("record", 8)]) (g := gName 8) rfl sc_form_of.nd (pi_list (pv 1)) (blkOk_by (own := [("record", 8)]) (N := N_form_of) (sc := defScope s_form_of) (by decide +kernel)) (fun _ _ _ _ _ => pg_name (i := 8) sc_form_of.nd rfl (Or.inl rfl)) (fun _ _ _ _ _ => (pts_one (pt_cmpR (r := rIn K true) op_notIn_seq (pv 8) (pv 4) (by rfl)))) (fun _ _ _ _ _ => (pv 8)))))
      (pss_cons (ps_set (i := 6) sc_form_of.nd rfl (Or.inl rfl) (pe_callTy call_tuple_of (by rfl) T.n_tuple (by decide +kernel) (pa_cons (pe_lc (own := [("record", 8)]) (g := gName 8) rfl sc_form_of.nd (pi_list (pv 5)) (blkOk_by (own := [("record", 8)]) (N := N_form_of) (sc := defScope s_form_of) (by decide +kernel)) (fun _ _ _ _ _ => pg_name (i := 8) sc_form_of.nd rfl (Or.inl rfl)) (fun _ _ _ _ _ => pts_nil) (fun _ _ _ _ _ => (show PE _ _ (tBM K "list" (rIndex K) _ _) from pe_bm PySem.F.plainAttrs_list PySem.F.slot_list_index PySem.F.type_list_index mt_index (pv 5) (pa_cons (pe_ix (r := rIxL K) ix_list (pv 0) (pv 8) (fun _ _ => rfl)) pa_nil)))) pa_nil)))
      (pss_cons (ps_set (i := 7) sc_form_of.nd rfl (Or.inl rfl) (pe_kdGet (hu_of hr) (pe_glob (v := V.ref a.aS) rfl T.mSHAPES rfl) (pa_cons (pv 6) pa_nil)))
      (pss_cons (ps_if (pt_cmpR op_isN (pv 7) pe_non (nomark _))
        (pss_one (ps_ret pe_non))
        pss_nil)
      (pss_one (ps_ret (pe_tup (pa_cons (pv 7) (pa_cons (pe_callTy call_tuple_of (by rfl) T.n_tuple (by decide +kernel) (pa_cons (pv 5) pa_nil)) pa_nil))))))))))))), ?_⟩
    have vl : (vL g).length = g.length := by rw [vL, List.length_map]
    have l1 := ok.l1
    have l4 := ok.l4
    have g0 : g.getD 0 0 ∈ g := getD_mem (by omega)
    refine ⟨_, rfl, _, _, rfl, .inl hG, _, _, rfl, rfl, _, rfl, ite2 (fun c => ?_) (fun c => ?_)⟩
    · have c : (4 : Int) < ((vL g).length : Int) := of_decide_eq_true c
      rw [vl] at c
      omega
    refine ⟨_, rfl, ga, rfl, ⟨_, hG⟩, fun D hD => lc_natL (K := K) (l := g) (f := fun m => im.getD m 0) (p := fun _ => true) hD hG (by omega) (fun _ => rfl) (fun m hm H' Q' _ z => z) (fun m hm _ H' Q' s' z => ?_) fun H1 s1 e1 => ?_⟩
    · exact ⟨_, rfl, _, rfl, ia, _, _, _, rfl, rfl, Same.seq s' hS, vL_at (hlt m hm), z⟩
    rw [filter_true] at e1
    have e1 : H1 D = some (.lst (vL (shownOf im g))) := e1
    refine ⟨_, rfl, ga, rfl, ⟨_, Same.seq s1 hG⟩, fun D2 hD2 => lc_natL (K := K) (l := g) (f := fun m => m) (p := fun m => !decide (m ∈ shownOf im g)) hD2 (Same.seq s1 hG) (by omega) (fun _ => rfl) (fun m hm H' Q' s' z => ?_) (fun m hm _ H' Q' s' z => ⟨_, rfl, z⟩) fun H2 s2 e2 => ?_⟩
    · refine ⟨_, rfl, _, rfl, D, _, rfl, .inl (SqL.of (s' _ _ e1)), rfl, flat_vL _, _, rfl, ?_⟩
      show Q' (!inV (vN m) (vL (shownOf im g))) H'
      rw [inV_nat]
      exact z
    rw [filt_not] at e2
    have e2 : H2 D2 = some (.lst (vL (unshown im g))) := e2
    have s02 := s1.trans s2
    have ust : startOf im g < im.length := by
      unfold startOf
      by_cases c : unshown im g = []
      · rw [if_pos c]; exact hlt _ g0
      · rw [if_neg c]
        have hp : 0 < (unshown im g).length := List.length_pos_iff.mpr c
        exact hlt _ (List.mem_filter.mp (getD_mem hp)).1
    refine ⟨_, rfl, _, rfl, _, .inl ⟨_, SqL.of e2, rfl⟩, if_val (v := vN (startOf im g)) ?_ (fun c Q' z => ?_) (fun c Q' z => ?_)⟩
    rotate_left
    · have ne : unshown im g ≠ [] := fun e => by rw [e] at c; cases c
      have hp : 0 < (unshown im g).length := List.length_pos_iff.mpr ne
      refine ⟨_, rfl, D2, _, _, _, rfl, rfl, SqL.of e2, vL_at (i := 0) hp, ?_⟩
      unfold startOf at z
      rw [if_neg ne] at z
      exact z
    · have em : unshown im g = [] := by
        cases e : unshown im g with
        | nil => rfl
        | cons x l => rw [e] at c; cases c
      refine ⟨_, rfl, ga, _, _, _, rfl, rfl, Same.seq s02 hG, vL_at (i := 0) (by omega), ?_⟩
      unfold startOf at z
      rw [if_pos em] at z
      exact z
    refine ⟨ia, im, startOf im g, rfl, Same.seq s02 hS, good, ust, ok.stop, fun H3 pp hpp s3 e3 => ?_⟩
    have e3 : H3 pp = some (.lst (vL (pathOf im g))) := e3
    have s03 := s02.trans s3
    refine ⟨_, rfl, _, rfl, ga, rfl, ⟨_, Same.seq s03 hG⟩, fun D4 hD4 => lc_natL (K := K) (l := g) (f := fun m => m) (p := fun m => !decide (m ∈ pathOf im g)) hD4 (Same.seq s03 hG) (by omega) (fun _ => rfl) (fun m hm H' Q' s' z => ?_) (fun m hm _ H' Q' s' z => ⟨_, rfl, z⟩) fun H4 s4 e4 => ?_⟩
    · refine ⟨_, rfl, _, rfl, pp, _, rfl, .inl (SqL.of (s' _ _ e3)), rfl, flat_vL _, _, rfl, ?_⟩
      show Q' (!inV (vN m) (vL (pathOf im g))) H'
      rw [inV_nat]
      exact z
    rw [filt_not] at e4
    have e3' := s4 _ _ e3
    have rl : (recsOf im g).length = g.length := ok.perm.length_eq
    have al : (vL (pathOf im g)).length + (vL (g.filter fun r => decide (r ∉ pathOf im g))).length = g.length := by
      rw [vL, vL, List.length_map, List.length_map, ← List.length_append]
      exact rl
    refine ⟨pp, D4, _, _, rfl, rfl, e3', e4, by rw [al]; exact sz64 (by omega), fun rp hrp => ?_⟩
    have s5 : Same H4 (upd H4 rp (.lst (vL (pathOf im g) ++ vL (g.filter fun r => decide (r ∉ pathOf im g))))) := same_new hrp
    have e5 : (upd H4 rp (.lst (vL (pathOf im g) ++ vL (g.filter fun r => decide (r ∉ pathOf im g))))) rp = some (.lst (vL (recsOf im g))) := by
      rw [upd_same]
      unfold recsOf
      rw [vL, vL, vL, List.map_append]
    generalize upd H4 rp (.lst (vL (pathOf im g) ++ vL (g.filter fun r => decide (r ∉ pathOf im g)))) = H5 at s5 e5 ⊢
    have s05 := (s03.trans s4).trans s5
    have rlt : ∀ x ∈ recsOf im g, x < im.length := fun x hx => hlt x (ok.perm.mem_iff.mp hx)
    refine ⟨_, rfl, rp, rfl, ⟨_, SqL.of e5⟩, fun D6 hD6 => lc_natL (K := K) (l := recsOf im g) (f := fun m => (recsOf im g).idxOf (im.getD m 0)) (p := fun _ => true) hD6 (SqL.of e5) (by omega) (fun _ => rfl) (fun m hm H' Q' _ z => z) (fun m hm _ H' Q' s' z => ?_) fun H6 s6 e6 => ?_⟩
    · exact ⟨_, rfl, .inl ⟨rfl, _, SqL.of (s' _ _ e5)⟩, _, rfl, _, rfl, ia, _, _, _, rfl, rfl, Same.seq (s05.trans s') hS, vL_at (rlt m hm), rIndex_nat (SqL.of (s' _ _ e5)) (ok.inn m hm) z⟩
    rw [filter_true] at e6
    have e6 : H6 D6 = some (.lst (vL (shapeOf im (recsOf im g)))) := e6
    refine ⟨D6, _, rfl, .inl ⟨SqL.of e6, fun sp hsp => ?_⟩⟩
    obtain ⟨wd, hw⟩ := shGet_str (xs := a.shx) (l := shapeOf im (recsOf im g)) (by rw [T.shk]; exact ok.shape)
    refine ⟨_, _, rfl, T.shp, _, rfl, sp, shapeOf im (recsOf im g), rfl, SqT.of upd_same, ?_⟩
    rw [hw]
    have e7 := (same_new (o := .tup (vL (shapeOf im (recsOf im g)))) hsp) _ _ (s6 _ _ e5)
    refine ⟨_, rfl, rfl, _, rfl, ite2 (fun c => ?_) (fun c => ?_)⟩
    · have c : V.str wd = V.non := of_decide_eq_true c
      cases c
    have s07 := (s05.trans s6).trans (same_new (o := .tup (vL (shapeOf im (recsOf im g)))) hsp)
    refine ⟨_, rfl, _, rfl, rp, _, rfl, .inl ⟨SqL.of e7, fun tp htp => ⟨(by show 2 ≤ sizeLine; decide), fun q1 hq1 => ?_⟩⟩⟩
    have sA := same_new (o := .tup (vL (recsOf im g))) htp
    have sB := same_new (o := .tup [V.str wd, .ref tp]) hq1
    exact q _ q1 tp (.str wd) ((s07.trans sA).free hq1) (s07.free htp) ((s07.trans sA).trans sB) upd_same (sB _ _ upd_same)
end
end K4
end
section
namespace K4
open PySem PySem.Spec PyProof.Rows L2
/-! ### sorted of a tuple, a tuple known to the object, its .index -/
def rSortedTI (K : PySem.W.Frag) : List V → Hp → VK → Prop := fun vs H Q => ∃ (a : Addr) (ns : List Int), vs = [V.ref a] ∧ SqT K H a (ns.map V.int) ∧
  ∀ (ns' : List Int) (p : Addr), ns'.Perm ns → ns'.Pairwise (· ≤ ·) → H p = none → Q (.ref p) (upd H p (.lst (ns'.map V.int)))
theorem cr_sortedTI {X : Cx} : CallR X (.builtin "sorted") (rSortedTI X.K) := by
  intro pins s σ H vs us Q I r h
  obtain ⟨a, ns, rfl, hs, q⟩ := h
  obtain ⟨its, rv, pl, hz⟩ := I.tuple hs
  rw [Vals.ref1 r]
  have hi := rv.ints
  obtain ⟨o, ho, hc, n, hd⟩ := pl
  have hzi : its.length ≤ sizeLine := by rw [← rv.length]; exact hz
  refine Calls.call_function_entry kind_sorted plain_sorted entry_sorted (args_sorted1 _) ?_
  unfold Builtin.«sorted»
  refine wpAny_bind (m := checkCount "sorted" 1 1 _) (wpAny_pure ?_)
  refine wpAny_bind (wpAny_collect_seq a (T := "tuple") (.inr rfl) ho hc hd (fun h' hk => ?_) (by simpa using hzi))
  refine wpAny_bind (wpAny_newList ?_ (by simpa using hzi))
  have hoL : (h'.push (seqObj "list" its.toArray 0)).get? h'.objs.size = some (seqObj "list" its.toArray 0) := Heap.get?_push_size _ rfl
  refine wpAny_bind (wpAny_holding (wpAny_call_entry PyProof.Rows.slot_list_sort ⟨_, hoL, rfl⟩ PyProof.Rows.entry_list_sort
    (SrtO.list_sort_ord SrtO.swo_int hoL hzi (fun h2 => SrtO.ints_sortable hi h2) fun out h1 h2 => ⟨_, rfl, ?_⟩) (PyProof.Rows.args_list_sort _)))
  refine wpAny_pure ⟨_, rfl, ?_⟩
  obtain ⟨k1, k2, k3⟩ := SrtO.ints_out hi h1 h2
  obtain ⟨ep, he'⟩ := PyProof.Rows.sortedHeap_at (vs := its) (out := out.toArray) hoL
  have hlen : ((out.map SrtO.iv).map V.int).length ≤ sizeLine := by
    rw [List.length_map, k2.length_eq]
    rw [List.length_map] at hz
    exact hz
  have I1 : L2.Inv X pins σ H { s with heap := h' } := I.kept (t' := s.toks) hk
  refine ⟨.ref _, upd H h'.objs.size (.lst ((out.map SrtO.iv).map V.int)), I1.laid (t' := s.toks) (fun b u e => ?_) (Nat.le_refl _) ⟨hlen, out, ep, vals_of_ints k1, he'⟩, rfl, q _ _ k2 k3 (I1.hok.fresh (Nat.le_refl _))⟩
  have hlt := Heap.lt_size e
  rw [PyProof.Rows.sortedHeap_old (Nat.ne_of_lt hlt) (by rw [Heap.size_push]; exact Nat.lt_succ_of_lt hlt)]
  exact Heap.get?_push_of_some _ e
/-- a tuple and its one object -/
def FrT (H : Hp) (p : Addr) (xs : List V) : Prop := ∃ o : Obj, H p = some (.frz o (.tup xs)) ∧ o.dict = none
theorem FrT.sq {K : PySem.W.Frag} {H : Hp} {p : Addr} {xs : List V} (h : FrT H p xs) : SqT K H p xs := by
  obtain ⟨o, e, _⟩ := h
  exact .inl (.inr ⟨o, e⟩)
theorem FrT.same {H H' : Hp} {p : Addr} {xs : List V} (h : FrT H p xs) (s : Same H H') : FrT H' p xs := by
  obtain ⟨o, e, d⟩ := h
  exact ⟨o, s _ _ e, d⟩
/-- tuple(list) -/
def rTupF (K : PySem.W.Frag) : List V → Hp → VK → Prop := fun xs H Q => ∃ (p : Addr) (ys : List V), xs = [.ref p] ∧ SqL K H p ys ∧ ∀ (l : Addr) (H' : Hp), H l = none → Same H H' → FrT H' l ys → Q (.ref l) H'
theorem call_tupF {X : Cx} : CallR X (.type "tuple") (rTupF X.K) := by
  intro pins s σ H xs us Q I r h
  obtain ⟨p, ys, rfl, hs, q⟩ := h
  rw [Vals.ref1 r]
  obtain ⟨its, rv, pl, hz⟩ := I.list hs
  refine call_tuple_list pl.isList (fun h' hk => ?_) (by rw [List.size_toArray, ← rv.length]; exact hz)
  have I1 : L2.Inv X pins σ H { s with heap := h' } := I.kept (t' := s.toks) hk
  have hp : H h'.objs.size = none := I1.hok.fresh (Nat.le_refl _)
  have I2 : L2.Inv X pins σ (upd H h'.objs.size (.frz { cls := .type "tuple", data := .seq its.toArray } (.tup ys))) { s with heap := h'.push { cls := .type "tuple", data := .seq its.toArray } } :=
    I1.laid (t' := s.toks) (fun b o e => Heap.get?_push_of_some _ e) (Nat.le_refl _) (show ObjOk X.prog X.w _ _ _ (.frz _ (.tup ys)) from ⟨Heap.get?_push_size _ rfl, hz, its, rv, IsTup.new _ _⟩)
  exact ⟨.ref h'.objs.size, _, I2, rfl, q _ _ hp (same_new hp) ⟨_, upd_same, rfl⟩⟩
def tTIndex (K : PySem.W.Frag) (to : TE) (t : TA) : TE := fun σ H Q => to σ H fun x H1 => ∃ (p : Addr) (l : List Nat), x = .ref p ∧ FrT H1 p (vL l) ∧ t σ H1 fun ys H2 => ∃ v : Nat, ys = [vN v] ∧ FrT H2 p (vL l) ∧ v ∈ l ∧ Q (vN (l.idxOf v)) H2
theorem idx_zs (l : List Nat) (v : Nat) : (l.map fun n : Nat => (n : Int)).idxOf (v : Int) = l.idxOf v := by
  induction l with
  | nil => rfl
  | cons x l ih =>
    rw [List.map_cons, List.idxOf_cons, List.idxOf_cons, ih]
    by_cases c : x = v
    · subst c; rw [beq_self_eq_true, beq_self_eq_true]
    · rw [beq_false_of_ne c, beq_false_of_ne (show ((x : Nat) : Int) ≠ ((v : Nat) : Int) by omega)]
theorem pe_tindex {X : Cx} {o e : Expr} {to : TE} {t : TA} {apos cpos : Pos} (ho : PE X o to) (ha : PA X [e] t) (hbase : attributeBase o "index" X.env (eval o X.env) = eval o X.env := by rfl)
    (hfew : ((backTo cpos (starEach [e] X.env)).all (fun x => !x.1) && (backToKw cpos (keywordEach [] X.env)).all (fun x => x.1.isSome)
      && decide ([e].length + ([] : List Keyword).length + (if ([] : List Keyword).isEmpty then 0 else 1) < 30)) = true := by rfl)
    (hline : (apos.endLine == cpos.line) = true := by rfl) (hs : starEach [e] X.env = (false, eval e X.env) :: starEach [] X.env := by rfl) (hplain : (backTo cpos (starEach [] X.env)).any (·.1) = false := by rfl) :
    PE X (.Call (.Attribute o "index" apos) [e] [] cpos) (tTIndex X.K to t) := by
  refine ⟨fun pins s σ H Q I h => ?_⟩
  refine wpAny_Call_method_late hbase hfew hline rfl (thn (ho.run pins s σ H _ I h) fun v s1 ⟨x, H1, I1, r1, p, l, ex, hF, q1⟩ => ?_)
  subst ex
  obtain rfl : v = Value.ref p := r1
  obtain ⟨ob, eF, dF⟩ := hF
  obtain ⟨g1, g2, its1, rv1, o2, g3, g4, _⟩ := I1.hok p _ eF
  rw [g1] at g3
  cases g3
  refine ⟨"tuple", "tuple.index", PySem.F.plainAttrs_tuple, PySem.F.slot_tuple_index, PySem.F.type_tuple_index, ⟨ob, g1, g4⟩, fun c hc => ?_, ?_⟩
  · cases hc
    exact ⟨ob, g1, dF⟩
  have hA := ha.run cpos pins s1 σ H1 _ I1 q1
  rw [hs] at hA ⊢
  refine Calls.callWith_builtin (by show (false || (backTo cpos (starEach [] X.env)).any (·.1)) = false; rw [hplain] <;> rfl) (Calls.evalArgs_plain ?_)
  refine thn hA fun us s2 ⟨vs, H2, I2, r2, m, ey, hF2, hm, q2⟩ => ?_
  subst ey
  obtain ⟨u, rfl, tk, rfl⟩ := r2.one
  obtain ⟨its, rv, pl, hz⟩ := I2.tuple (hF2.sq (K := X.K))
  have hi := (show Vals ((l.map fun n : Nat => (n : Int)).map V.int) its by rw [← ints_vL]; exact rv).ints
  refine PySem.SeqAt.tuple_index_ints (show s2.heap.IsTuple p its.toArray from pl) hi (List.mem_map_of_mem hm) ?_
  rw [idx_zs]
  exact ⟨vN (l.idxOf m), H2, I2.tok _, ⟨_, rfl⟩, q2⟩
end K4
end
section
namespace K4
open PySem L2
/-- the pieces of an image, as they were found -/
structure Pcs (im : List Nat) (H : Hp) (qs : List Addr) (gs : List (List Nat)) : Prop where
  len : qs.length = gs.length
  at' : ∀ (i : Nat) (q : Addr) (g : List Nat), qs[i]? = some q → gs[i]? = some g → ∃ (v : V) (rp : Addr), H q = some (.tup [v, .ref rp]) ∧ H rp = some (.tup (vL (recsOf im g)))
theorem Pcs.nil (im : List Nat) (H : Hp) : Pcs im H [] [] := ⟨rfl, fun i r g h => by cases h⟩
theorem Pcs.mono {im : List Nat} {H H' : Hp} {qs : List Addr} {gs : List (List Nat)} (h : Pcs im H qs gs) (t : Tups H H') : Pcs im H' qs gs :=
  ⟨h.len, fun i q g a b => by obtain ⟨v, rp, e1, e2⟩ := h.at' i q g a b; exact ⟨v, rp, t _ _ e1, t _ _ e2⟩⟩
theorem Pcs.snoc {im : List Nat} {H : Hp} {qs : List Addr} {gs : List (List Nat)} (h : Pcs im H qs gs) {q : Addr} {g : List Nat} {v : V} {rp : Addr} (e1 : H q = some (.tup [v, .ref rp])) (e2 : H rp = some (.tup (vL (recsOf im g)))) : Pcs im H (qs ++ [q]) (gs ++ [g]) := by
  refine ⟨by rw [List.length_append, List.length_append, h.len]; rfl, fun i r' g' a b => ?_⟩
  rw [List.getElem?_append] at a b
  rw [← h.len] at b
  by_cases c : i < qs.length
  · rw [if_pos c] at a b
    exact h.at' i r' g' a b
  · rw [if_neg c] at a b
    cases d : i - qs.length with
    | zero =>
      rw [d] at a b
      cases a
      cases b
      exact ⟨v, rp, e1, e2⟩
    | succ k =>
      rw [d] at a
      cases a
theorem sorted_one {rs g : List Nat} {ns : List Int} (hp : rs.Perm g) (hg : g.Pairwise (· < ·)) (h1 : ns.Perm (rs.map fun n : Nat => (n : Int))) (h2 : ns.Pairwise (· ≤ ·)) : ns = g.map fun n : Nat => (n : Int) := by
  refine List.Perm.eq_of_pairwise (le := (· ≤ ·)) (fun a b _ _ x y => Int.le_antisymm x y) h2 ?_ (h1.trans (hp.map _))
  exact List.pairwise_map.mpr (hg.imp fun h => by omega)
section
variable {P : Program} {w : World} {K : PySem.W.Frag} {mg : Str → Option Value} {base : Heap} {a : Ad}
abbrev s_pieces : Stmt := topS 15
abbrev N_pieces : List Str := ["image", "found", "group", "piece"]
theorem sc_pieces : FnScope N_pieces ["image"] (defScope s_pieces) := ⟨rfl, rfl, rfl, by decide +kernel, rfl, by decide +kernel, by decide +kernel⟩
def spPieces (K : PySem.W.Frag) : Sp := fun vs H Q _ => ∃ (ia : Addr) (im : List Nat), vs = [.ref ia] ∧ SqL K H ia (vL im) ∧ Good im ∧ im.length ≤ 64 ∧ (∀ g ∈ gps (labs im im.length), FormOk im g) ∧
  ∀ H' p qs, H p = none → Same H H' → H' p = some (.lst (qs.map V.ref)) → Pcs im H' qs (gps (labs im im.length)) → Q (.ref p) H'
theorem B_pieces (T : Txt K mg a) : Binds K (a.fd 15) ["image"] [] := T.f_pieces.binds fun _ _ _ _ _ _ us hl => match us, hl with | [_], _ => rfl
theorem G_pieces (T : Txt K mg a) : FnOk P w K mg base CX0 3 (a.f 15) (a.fd 15) ["image"] (spPieces K) := by
  refine T.f_pieces.ok sc_pieces (fun vs H Q E h => ?_) (fun cdv A outer s H vs Q E hr h => ?_)
  · obtain ⟨_, _, rfl, _⟩ := h
    rfl
  · obtain ⟨ia, im, rfl, hS, good, hn, hF, q⟩ := h
    refine ⟨_, (pss_cons (ps_set (i := 1) sc_pieces.nd rfl (Or.inl rfl) (pe_lst pa_nil))
      (pss_cons (ps_for PassesOwn.never rfl (pi_list (pe_call (G_groups T) (hr.mono (by decide)) rfl T.m_groups T.f_groups.kp (B_groups T) .nil pass0 (pa_cons (pv 0) pa_nil))) (pg_name (i := 2) sc_pieces.nd rfl (Or.inl rfl))
        (pss_cons (ps_set (i := 3) sc_pieces.nd rfl (Or.inl rfl) (pe_call (G_form_of T) (hr.mono (by decide)) rfl T.m_form_of T.f_form_of.kp (B_form_of T) .nil pass0 (pa_cons (pv 0) (pa_cons (pv 2) pa_nil))))
        (pss_cons (ps_if (pt_cmpR op_isN (pv 3) pe_non (nomark _))
          (pss_one ps_never)
          pss_nil)
        (pss_one (ps_expr (pe_bm PySem.F.plainAttrs_list PySem.F.slot_list_append PySem.F.type_list_append mt_append (pv 1) (pa_cons (pv 3) pa_nil)))))))
      (pss_one (ps_ret (pv 1))))), ?_⟩
    refine ⟨by decide, fun fp hfp => ?_⟩
    have s0 := same_new (o := .lst []) hfp
    refine ⟨_, rfl, ia, im, rfl, Same.seq s0 hS, good, hn, fun H1 p rs hp s1 e1 hrs hL => ?_⟩
    have f1 := s1 _ _ (upd_same (H := H) (a := fp) (o := .lst []))
    have npf : p ≠ fp := fun e => by rw [e, upd_same] at hp; cases hp
    have hgl := gps_len (labs im im.length)
    have hglt : ∀ g ∈ gps (labs im im.length), ∀ x ∈ g, x < im.length := fun g hg x hx => by
      have := gps_lt hg x hx
      rwa [labs_len] at this
    rw [labs_len] at hgl
    generalize gps (labs im im.length) = gs at hL hF q hgl hglt
    refine ⟨p, rfl, ⟨_, SqL.of e1⟩, for_list (K := K) (xs := rs.map V.ref) (fun j σ H' => But fp H1 H' ∧ ∃ qs x y, H' fp = some (.lst (qs.map V.ref)) ∧ Pcs im H' qs (gs.take j) ∧ σ = [some (.ref ia), some (.ref fp), x, y]) ⟨But.refl _ _, [], none, none, f1, by rw [List.take_zero]; exact Pcs.nil _ _, rfl⟩ (fun j σ H' _ z => SqL.of (z.1 _ _ npf e1)) ?_ ?_⟩
    · rintro j xv σ H2 hj ⟨b2, qs, x, y, f2, hP, rfl⟩
      obtain ⟨r, g, rfl, hrm, hg, er⟩ := hL.get hj
      have gm := List.mem_of_getElem? hg
      have nrf : r ≠ fp := fun e => by
        have := hrs r hrm
        rw [e, upd_same] at this
        cases this
      have sH2 : Same H H2 := fun c o h => b2 _ _ (ne_of_none h hfp) (s1 _ _ (s0 _ _ h))
      refine ⟨_, rfl, _, rfl, ia, r, im, g, rfl, Same.seq sH2 hS, SqL.of (b2 _ _ nrf er), good, hglt g gm, hF g gm, fun H3 q1 rp v hq1 hrp s3 e3 e4 => ?_⟩
      refine ⟨_, rfl, rfl, _, rfl, ite2 (fun c => ?_) (fun c => ?_)⟩
      · have c : V.ref q1 = V.non := of_decide_eq_true c
        cases c
      · have f3 := s3 _ _ f2
        have tt := Tups.set (o := .lst (qs.map V.ref ++ [.ref q1])) f3
        refine ⟨_, rfl, .inl ⟨rfl, _, SqL.of f3⟩, _, rfl, fp, _, _, rfl, rfl, f3, ?_, ?_⟩
        · rw [List.length_map, hP.len, List.length_take]
          exact szB (by omega)
        · refine ⟨fun c o hc h => by rw [upd_ne hc]; exact s3 _ _ (b2 _ _ hc h), qs ++ [q1], _, _, by rw [upd_same, List.map_append]; rfl, ?_, rfl⟩
          rw [take_succ' hg]
          exact (hP.mono ((Tups.of s3).trans tt)).snoc (tt _ _ e3) (tt _ _ e4)
    · rintro σ H2 ⟨b2, qs, x, y, f2, hP, rfl⟩
      rw [List.length_map, hL.len, List.take_length] at hP
      exact ⟨_, rfl, q H2 fp qs hfp (fun c o h => b2 _ _ (ne_of_none h hfp) (s1 _ _ (s0 _ _ h))) f2 hP⟩
abbrev s_key_of : Stmt := topS 19
abbrev N_key_of : List Str := ["image", "records", "ascending", "record"]
theorem sc_key_of : FnScope N_key_of ["image", "records"] (defScope s_key_of) := ⟨rfl, rfl, rfl, by decide +kernel, rfl, by decide +kernel, by decide +kernel⟩
def spKeyOf (K : PySem.W.Frag) : Sp := fun vs H Q _ => ∃ (ia ra : Addr) (im rs g : List Nat), vs = [.ref ia, .ref ra] ∧ SqL K H ia (vL im) ∧ SqT K H ra (vL rs) ∧ rs.Perm g ∧ g.Pairwise (· < ·) ∧ (∀ x ∈ g, x < im.length) ∧ g.length ≤ 4 ∧
  ∀ H' p t1 t2, H p = none → Same H H' → H' p = some (.tup [vN g.length, .ref t1, .ref t2]) → FrT H' t1 (vL g) → H' t2 = some (.tup (vL (g.map fun r => im.getD r 0))) → Q (.ref p) H'
theorem B_key_of (T : Txt K mg a) : Binds K (a.fd 19) ["image", "records"] [] := T.f_key_of.binds fun _ _ _ _ _ _ us hl => match us, hl with | [_, _], _ => rfl
theorem G_key_of (T : Txt K mg a) : FnOk P w K mg base CX0 1 (a.f 19) (a.fd 19) ["image", "records"] (spKeyOf K) := by
  refine T.f_key_of.ok sc_key_of (fun vs H Q E h => ?_) (fun cdv A outer s H vs Q E hr h => ?_)
  · obtain ⟨_, _, _, _, _, rfl, _⟩ := h
    rfl
  · obtain ⟨ia, ra, im, rs, g, rfl, hS, hR, hp, hg, hlt, h4, q⟩ := h
    refine ⟨_, (pss_cons (ps_set (i := 2) sc_key_of.nd rfl (Or.inl rfl) (pe_callTy call_tupF (by rfl) T.n_tuple (by decide +kernel) (pa_cons (pe_callB cr_sortedTI (by rfl) T.n_sorted (by decide +kernel) (pa_cons (pv 1) pa_nil)) pa_nil)))
      (pss_one (ps_ret (pe_tup (pa_cons (pe_callB call_len_seq (by rfl) T.n_len (by decide +kernel) (pa_cons (pv 2) pa_nil)) (pa_cons (pv 2) (pa_cons (pe_callTy call_tuple_of (by rfl) T.n_tuple (by decide +kernel) (pa_cons (pe_lc (own := [("record", 3)]) (g := gName 3) rfl sc_key_of.nd (pi_tup (pv 2)) (blkOk_by (own := [("record", 3)]) (N := N_key_of) (sc := defScope s_key_of) (by decide +kernel)) (fun _ _ _ _ _ => pg_name (i := 3) sc_key_of.nd rfl (Or.inl rfl)) (fun _ _ _ _ _ => pts_nil) (fun _ _ _ _ _ => (pe_ix (r := rIxL K) ix_list (pv 0) (pv 3) (fun _ _ => rfl)))) pa_nil)) pa_nil))))))), ?_⟩
    refine ⟨_, rfl, ra, rs.map fun n : Nat => (n : Int), rfl, by rw [← ints_vL]; exact hR, fun ns sp pm pw hsp => ?_⟩
    obtain rfl := sorted_one hp hg pm pw
    refine ⟨sp, vL g, rfl, by rw [ints_vL]; exact SqL.of upd_same, fun t1 H1 ht1 s1 f1 => ?_⟩
    have s01 : Same H H1 := (same_new hsp).trans s1
    have vg : (vL g).length = g.length := by rw [vL, List.length_map]
    refine ⟨_, rfl, _, _, rfl, .inr f1.sq, _, rfl, _, rfl, t1, rfl, ⟨_, f1.sq⟩, fun D hD => lc_natT (K := K) (l := g) (f := fun m => im.getD m 0) (p := fun _ => true) hD f1.sq (by omega) (fun _ => rfl) (fun m hm H' Q' _ z => z) (fun m hm _ H' Q' s' z => ?_) fun H2 s2 e2 => ?_⟩
    · exact ⟨_, rfl, _, rfl, ia, _, _, _, rfl, rfl, Same.seq (s01.trans s') hS, vL_at (hlt m hm), z⟩
    · rw [filter_true] at e2
      refine ⟨D, _, rfl, .inl ⟨SqL.of e2, fun t2 ht2 => ⟨(by show 3 ≤ sizeLine; decide), fun p hp2 => ?_⟩⟩⟩
      have sA := same_new (o := .tup (vL (g.map fun r => im.getD r 0))) ht2
      have sB := same_new (o := .tup [V.int ((vL g).length : Int), .ref t1, .ref t2]) hp2
      have sAll := (s01.trans s2).trans (sA.trans sB)
      refine q _ p t1 t2 (((s01.trans s2).trans sA).free hp2) sAll ?_ (f1.same ((s2.trans sA).trans sB)) (sB _ _ upd_same)
      rw [upd_same, vg]
end
end K4
end
section
namespace K4
open PySem L2
theorem hu65 {k : Nat} {A : Around} (hr : Room k A) : A.units + 65 < cLine := by have := hr.un; omega
theorem sqT_lst {K : PySem.W.Frag} {H : Hp} {c D : Addr} {xs l : List V} {o : HO} (h : SqT K H c xs) (e : H D = some (.lst l)) : SqT K (upd H D o) c xs := by
  rcases h with (h | ⟨ob, h⟩) | h
  · exact .inl (.inl (by rw [upd_ne (fun z => by rw [z, e] at h; cases h)]; exact h))
  · exact .inl (.inr ⟨ob, by rw [upd_ne (fun z => by rw [z, e] at h; cases h)]; exact h⟩)
  · exact .inr h
theorem Tpls.mono {K : PySem.W.Frag} {H H' : Hp} {rs : List Addr} {gs : List (List Nat)} (h : Tpls K H rs gs) (s : Same H H') : Tpls K H' rs gs := ⟨h.len, fun i r g a b => sameT s (h.at' i r g a b)⟩
theorem Tpls.lst {K : PySem.W.Frag} {H : Hp} {rs : List Addr} {gs : List (List Nat)} {D : Addr} {l : List V} {o : HO} (h : Tpls K H rs gs) (e : H D = some (.lst l)) : Tpls K (upd H D o) rs gs := ⟨h.len, fun i r g a b => sqT_lst (h.at' i r g a b) e⟩
/-- the table of patterns, its first m rows -/
def PatsTo (K : PySem.W.Frag) (H : Hp) (m : Nat) (as : List Addr) : Prop := as.length = m ∧ ∀ (k : Nat) (b : Addr), as[k]? = some b → ∃ rs, H b = some (.lst (rs.map V.ref)) ∧ Tpls K H rs (pats k)
theorem PatsTo.mono {K : PySem.W.Frag} {H H' : Hp} {m : Nat} {as : List Addr} (h : PatsTo K H m as) (s : Same H H') : PatsTo K H' m as :=
  ⟨h.1, fun k b e => by obtain ⟨rs, e1, t⟩ := h.2 k b e; exact ⟨rs, s _ _ e1, t.mono s⟩⟩
abbrev dT (gs : List (List Nat)) : List PyData := gs.map fun g => PyData.tuple (dI g)
theorem dp_tpls {K : PySem.W.Frag} {H : Hp} : ∀ {rs : List Addr} {gs : List (List Nat)}, Tpls K H rs gs → DpAll K H (rs.map V.ref) (dT gs)
  | [], [], _ => .nil
  | [], _ :: _, h => by have := h.len; cases this
  | _ :: _, [], h => by have := h.len; cases this
  | r :: rs, g :: gs, h => .cons (.tup (h.at' 0 r g rfl rfl) (dp_nat g)) (dp_tpls ⟨Nat.succ.inj h.len, fun i r' g' a b => h.at' (i + 1) r' g' a b⟩)
theorem can_dT : ∀ gs : List (List Nat), PyData.canLayAll0 (dT gs) = true
  | [] => by simp [PyData.canLayAll0]
  | g :: gs => by
    show PyData.canLayAll0 (PyData.tuple (dI g) :: dT gs) = true
    rw [PyData.canLayAll0, can_dT gs, PyData.canLay0, can_dI]
    rfl
theorem depth_dT : ∀ gs : List (List Nat), PyData.depthAll (dT gs) ≤ 1
  | [] => by simp [PyData.depthAll]
  | g :: gs => by
    show PyData.depthAll (PyData.tuple (dI g) :: dT gs) ≤ 1
    have := depth_dT gs
    rw [PyData.depthAll, PyData.depth, depth_dI]
    omega
theorem shaped_dT (gs : List (List Nat)) : SeqAt.shaped (.list (dT gs)) = true := by
  unfold SeqAt.shaped
  have := depth_dT gs
  rw [PyData.canLay0, PyData.depth, can_dT, decide_eq_true (by omega)]
  rfl
/-- the table, made -/
theorem lc_pats {P : Program} {w : World} {K : PySem.W.Frag} {i : Nat} {te : TE} {vs : List Nat} {σ : L2.St} {H1 : Hp} {D : Addr} {Qd : Hp → Prop} (hD : H1 D = none) (hw : ∀ x, wipe ((wipe σ vs).set i (some x)) vs = wipe σ vs)
    (he : ∀ (m : Nat) H' Q, m ≤ 4 → Same H1 H' → (∀ H5 p rs, H' p = none → Same H' H5 → H5 p = some (.lst (rs.map V.ref)) → Tpls K H5 rs (pats m) → Q (.ref p) H5) → te ((wipe σ vs).set i (some (vN m))) H' Q)
    (hd : ∀ H' as, Same H1 H' → H' D = some (.lst (as.map V.ref)) → PatsTo K H' 5 as → Qd H') :
    ∃ W : Nat → Nat → Hp → Prop, (∃ m, W 0 m (upd H1 D (.lst []))) ∧ ∀ i2 m H, W i2 m H →
      ((Itr 0 5).stop i2 H ∧ Qd H) ∨ ((Itr 0 5).go i2 H ∧ ∃ Nx : Hp → Prop, (∀ H', Nx H' → ∃ m', m' < m ∧ W (i2 + 1) m' H') ∧ ∀ x H', (Itr 0 5).yld i2 H x H' → gName i x (wipe σ vs) H' fun σ2 H2 => wipe σ2 vs = wipe σ vs ∧ tYes σ2 H2 fun b H3 =>
        if b = true then te σ2 H3 fun y H4 => ∃ acc, H4 D = some (.lst acc) ∧ acc.length < sizeLine ∧ Nx (upd H4 D (.lst (acc ++ [y]))) else Nx H3) := by
  refine lc_range (lo := 0) (fun j H' => Same H1 H' ∧ ∃ as, H' D = some (.lst (as.map V.ref)) ∧ PatsTo K H' j as ∧ ∀ b ∈ as, b ≠ D) ⟨same_new hD, [], upd_same, ⟨rfl, fun k b e => by cases e⟩, fun b h => by cases h⟩ ?_ ?_
  · rintro j H hj ⟨s, as, e, hp, nD⟩
    refine ⟨hw _, ?_⟩
    have ej : V.int (0 + (j : Int)) = vN j := by rw [Int.zero_add]
    rw [ej]
    refine he j H _ (by omega) s fun H5 p rs hpn s5 e5 t5 => ⟨_, s5 _ _ e, ?_, same_mut (s.trans s5) hD, as ++ [p], ?_, ?_, ?_⟩
    · rw [List.length_map, hp.1]
      exact szB (by omega)
    · rw [upd_same, List.map_append]; rfl
    · have eD := s5 _ _ e
      refine ⟨by rw [List.length_append, hp.1]; rfl, fun k b hb => ?_⟩
      rw [List.getElem?_append] at hb
      by_cases c : k < as.length
      · rw [if_pos c] at hb
        obtain ⟨rs', h1, h2⟩ := hp.2 k b hb
        exact ⟨rs', by rw [upd_ne (nD b (List.mem_of_getElem? hb))]; exact s5 _ _ h1, (h2.mono s5).lst eD⟩
      · rw [if_neg c] at hb
        have hk : k = j := by
          have := (List.getElem?_eq_some_iff.mp hb).1
          have hl := hp.1
          simp at this
          omega
        subst hk
        rw [hp.1, Nat.sub_self] at hb
        cases hb
        exact ⟨rs, by rw [upd_ne (Ne.symm (ne_of_none e hpn))]; exact e5, t5.lst eD⟩
    · intro b hb
      rcases List.mem_append.mp hb with z | z
      · exact nD b z
      · rw [List.mem_singleton.mp z]
        exact Ne.symm (ne_of_none e hpn)
  · rintro H ⟨s, as, e, hp, _⟩
    exact hd H as s e hp
theorem pats_idx {k pl m : Nat} (h1 : 1 ≤ k) (h4 : k ≤ 4) (hp : pl < F k) {z : PyData} (hm : m < pl) (e : (dT (pats k))[m]? = some z) : PyData.eqv z (.tuple (dI (pat k pl))) = false := by
  rw [List.getElem?_map, pat_get h1 h4 (by omega)] at e
  cases e
  rw [eqv_tI]
  exact decide_eq_false (ltL_ne (pat_mono h1 h4 hm hp))
section
variable {P : Program} {w : World} {K : PySem.W.Frag} {mg : Str → Option Value} {base : Heap} {a : Ad}
abbrev s_image_number : Stmt := topS 28
abbrev N_image_number : List Str := ["image", "found", "counts", "patterns", "left", "number", "_", "listed", "n", "many", "records", "names", "earlier", "fewer", "record", "name"]
theorem sc_image_number : FnScope N_image_number ["image"] (defScope s_image_number) := ⟨rfl, rfl, rfl, by decide +kernel, rfl, by decide +kernel, by decide +kernel⟩
def spImageNumber (K : PySem.W.Frag) : Sp := fun vs H Q _ => ∃ (ia : Addr) (im : List Nat) (ps : List Pc), vs = [.ref ia] ∧ SqL K H ia (vL im) ∧ im.length ≤ 64 ∧ Val (List.range im.length) ps ∧ IsImg im.length ps im ∧
  ∀ H', Same H H' → Q (vN (enc (List.range im.length) ps)) H'
theorem B_image_number (T : Txt K mg a) : Binds K (a.fd 28) ["image"] [] := T.f_image_number.binds fun _ _ _ _ _ _ us hl => match us, hl with | [_], _ => rfl
theorem G_image_number (T : Txt K mg a) : FnOk P w K mg base CX0 4 (a.f 28) (a.fd 28) ["image"] (spImageNumber K) := by
  refine T.f_image_number.ok sc_image_number (fun vs H Q E h => ?_) (fun cdv A outer s H vs Q E hr h => ?_)
  · obtain ⟨_, _, _, rfl, _⟩ := h
    rfl
  · obtain ⟨ia, im, ps, rfl, hS, hn, hv, hi, q⟩ := h
    refine ⟨_, (pss_cons (ps_set (i := 1) sc_image_number.nd rfl (Or.inl rfl) (pe_call (G_pieces T) (hr.mono (by decide)) rfl T.m_pieces T.f_pieces.kp (B_pieces T) .nil pass0 (pa_cons (pv 0) pa_nil)))
      (pss_cons (ps_set (i := 2) sc_image_number.nd rfl (Or.inr rfl) (pe_call (G_totals T) (hr.mono (by decide)) rfl T.m_totals T.f_totals.kp (B_totals T) .nil pass0 (pa_cons (pe_callB call_len_seq (by rfl) T.n_len (by decide +kernel) (pa_cons (pv 0) pa_nil)) pa_nil)))
      (pss_cons (ps_setLc (i := 3) (own := [("many", 9)]) (g := gName 9) rfl sc_image_number.nd rfl rfl (sw_true rfl rfl rfl (by decide +kernel)) (pi_range1 (by rfl) T.n_range (pa_cons (pe_op op_add (pe_glob (v := V.int 4) rfl T.mLARGEST ⟨_, rfl⟩) pe_int) pa_nil)) (blkOk_by (own := [("many", 9)]) (N := N_image_number) (sc := defScope s_image_number) (by decide +kernel)) (fun _ _ _ _ _ => pg_name (i := 9) sc_image_number.nd rfl (Or.inl rfl)) (fun _ _ _ _ _ => pts_nil) (fun _ _ _ _ _ => (pe_call (G_patterns T) (hr.mono (by decide)) rfl T.m_patterns T.f_patterns.kp (B_patterns T) .nil pass0 (pa_cons (pv 9) pa_nil))))
      (pss_cons (ps_set (i := 4) sc_image_number.nd rfl (Or.inr rfl) (pe_listRg rfl rfl T.n_list (prg_1 rfl T.n_range (pe_callB call_len_seq (by rfl) T.n_len (by decide +kernel) (pa_cons (pv 0) pa_nil)))))
      (pss_cons (ps_set (i := 5) sc_image_number.nd rfl (Or.inl rfl) pe_int)
      (pss_cons (ps_for PassesOwn.never rfl (pi_list (pv 1)) (pg_tup rfl (pgs_cons (pg_name (i := 6) sc_image_number.nd rfl (Or.inl rfl)) (pgs_cons (pg_name (i := 7) sc_image_number.nd rfl (Or.inl rfl)) pgs_nil)))
        (pss_cons (ps_set (i := 8) sc_image_number.nd rfl (Or.inr rfl) (pe_callB call_len_seq (by rfl) T.n_len (by decide +kernel) (pa_cons (pv 4) pa_nil)))
        (pss_cons (ps_asg (pe_call (G_key_of T) (hr.mono (by decide)) rfl T.m_key_of T.f_key_of.kp (B_key_of T) .nil pass0 (pa_cons (pv 0) (pa_cons (pv 7) pa_nil))) (pg_tup rfl (pgs_cons (pg_name (i := 9) sc_image_number.nd rfl (Or.inl rfl)) (pgs_cons (pg_name (i := 10) sc_image_number.nd rfl (Or.inr rfl)) (pgs_cons (pg_name (i := 11) sc_image_number.nd rfl (Or.inl rfl)) pgs_nil)))))
        (pss_cons (ps_set (i := 5) sc_image_number.nd rfl (Or.inl rfl) (pe_op op_add (pv 5) (pe_callB (cr_sum rfl) (by rfl) T.n_sum (by decide +kernel) (pa_cons (pe_lc (own := [("fewer", 13)]) (g := gName 13) rfl sc_image_number.nd (pi_range2 (by rfl) T.n_range (pa_cons pe_int (pa_cons (pv 9) pa_nil))) (blkOk_by (own := [("fewer", 13)]) (N := N_image_number) (sc := defScope s_image_number) (by decide +kernel)) (fun _ _ _ _ _ => pg_name (i := 13) sc_image_number.nd rfl (Or.inl rfl)) (fun _ _ _ _ _ => pts_nil) (fun _ _ _ _ _ => (pe_call (G_block T) (hr.mono (by decide)) rfl T.m_block T.f_block.kp (B_block T) .nil pass0 (pa_cons (pv 2) (pa_cons (pv 8) (pa_cons (pv 13) pa_nil)))))) pa_nil))))
        (pss_cons (ps_set (i := 12) sc_image_number.nd rfl (Or.inl rfl) (pe_op op_mul (pe_call (G_set_number T) (hr.mono (by decide)) rfl T.m_set_number T.f_set_number.kp (B_set_number T) .nil pass0 (pa_cons (pe_lc (own := [("record", 14)]) (g := gName 14) rfl sc_image_number.nd (pi_tup (pv 10)) (blkOk_by (own := [("record", 14)]) (N := N_image_number) (sc := defScope s_image_number) (by decide +kernel)) (fun _ _ _ _ _ => pg_name (i := 14) sc_image_number.nd rfl (Or.inl rfl)) (fun _ _ _ _ _ => pts_nil) (fun _ _ _ _ _ => (show PE _ _ (tBM K "list" (rIndex K) _ _) from pe_bm PySem.F.plainAttrs_list PySem.F.slot_list_index PySem.F.type_list_index mt_index (pv 4) (pa_cons (pv 14) pa_nil)))) (pa_cons (pv 8) pa_nil))) (pe_ix ix_tup (pe_glob (v := V.ref a.aF) rfl T.mFORM rfl) (pv 9) (fun _ _ => rfl))))
        (pss_cons (ps_set (i := 12) sc_image_number.nd rfl (Or.inl rfl) (pe_op op_add (pv 12) (pe_bm PySem.F.plainAttrs_list PySem.F.slot_list_index PySem.F.type_list_index (mt_indexD (hu65 hr)) (pe_ix ix_list (pv 3) (pv 9) (fun _ _ => rfl)) (pa_cons (pe_callTy call_tuple_of (by rfl) T.n_tuple (by decide +kernel) (pa_cons (pe_lc (own := [("name", 15)]) (g := gName 15) rfl sc_image_number.nd (pi_tup (pv 11)) (blkOk_by (own := [("name", 15)]) (N := N_image_number) (sc := defScope s_image_number) (by decide +kernel)) (fun _ _ _ _ _ => pg_name (i := 15) sc_image_number.nd rfl (Or.inl rfl)) (fun _ _ _ _ _ => pts_nil) (fun _ _ _ _ _ => (show PE _ _ (tTIndex K _ _) from pe_tindex (pv 10) (pa_cons (pv 15) pa_nil)))) pa_nil)) pa_nil))))
        (pss_cons (ps_set (i := 5) sc_image_number.nd rfl (Or.inl rfl) (pe_op op_add (pv 5) (pe_op op_mul (pv 12) (pe_ix ix_list (pv 2) (pe_op op_sub (pv 8) (pv 9)) (fun _ _ => rfl)))))
        (pss_one (ps_set (i := 4) sc_image_number.nd rfl (Or.inr rfl) (pe_lc (own := [("record", 14)]) (g := gName 14) rfl sc_image_number.nd (pi_list (pv 4)) (blkOk_by (own := [("record", 14)]) (N := N_image_number) (sc := defScope s_image_number) (by decide +kernel)) (fun _ _ _ _ _ => pg_name (i := 14) sc_image_number.nd rfl (Or.inl rfl)) (fun _ _ _ _ _ => (pts_one (pt_cmpR (r := rIn K true) op_notIn_seq (pv 14) (pv 10) (by rfl)))) (fun _ _ _ _ _ => (pv 14))))))))))))
      (pss_one (ps_ret (pv 5))))))))), ?_⟩
    have good := img_good hv hi
    have hgp := groups_img hv hi
    have hF : ∀ g ∈ gps (labs im im.length), FormOk im g := by
      rw [hgp]
      intro g hg
      obtain ⟨pc, hp, rfl⟩ := List.mem_map.mp hg
      exact form_img hv hi hp
    have vl : (vL im).length = im.length := by rw [vL, List.length_map]
    refine ⟨_, rfl, ia, im, rfl, hS, good, hn, hF, fun H1 fp qs hfp s1 f1 hP => ?_⟩
    rw [hgp] at hP hF
    refine ⟨_, rfl, _, _, rfl, .inl (Same.seq s1 hS), im.length, by rw [vl]; rfl, hn, fun H2 cp hcp s2 c2 => ?_⟩
    refine ⟨_, _, rfl, rfl, _, rfl, by decide, by decide, fun D hD => lc_pats (P := P) (w := w) (K := K) hD (fun _ => rfl) (fun m H' Q' hm s' z => ⟨_, rfl, m, rfl, hm, z⟩) fun H3 as s3 e3 hA => ?_⟩
    have s13 := s2.trans s3
    refine ⟨_, rfl, _, _, rfl, .inl (Same.seq (s1.trans s13) hS), _, rfl, by rw [vl]; exact RgOk.nat (by omega), fun lp0 hlp0 => ?_⟩
    rw [vl, rgV_nat]
    have s4 : Same H3 (upd H3 lp0 (.lst (vL (List.range im.length)))) := same_new hlp0
    have l4 : (upd H3 lp0 (.lst (vL (List.range im.length)))) lp0 = some (.lst (vL (List.range im.length))) := upd_same
    generalize upd H3 lp0 (.lst (vL (List.range im.length))) = H4 at s4 l4 ⊢
    have s14 := s13.trans s4
    have s04 := s1.trans s14
    have f4 := s14 _ _ f1
    have c4 := s4 _ _ (s3 _ _ c2)
    have e4 := s4 _ _ e3
    have hA4 := hA.mono s4
    have hP4 := hP.mono (Tups.of s14)
    refine ⟨_, rfl, fp, rfl, ⟨_, SqL.of f4⟩, for_list (K := K) (xs := qs.map V.ref) (fun j σ H' => Same H4 H' ∧ ∃ (lp : Addr) (left : List Nat) (z : Int) (x6 x7 x8 x9 x10 x11 x12 : Option V), H' lp = some (.lst (vL left)) ∧ left.Pairwise (· < ·) ∧ (∀ x ∈ left, x < im.length) ∧ left.length ≤ im.length ∧ Val left (ps.drop j) ∧
      z + ((enc left (ps.drop j) : Nat) : Int) = ((enc (List.range im.length) ps : Nat) : Int) ∧ σ = [some (.ref ia), some (.ref fp), some (.ref cp), some (.ref D), some (.ref lp), some (.int z), x6, x7, x8, x9, x10, x11, x12, none, none, none])
      ⟨Same.refl _, lp0, List.range im.length, 0, _, _, _, _, _, _, _, l4, range_pw _, (fun x hx => List.mem_range.mp hx), by rw [List.length_range]; exact Nat.le_refl _, hv, by rw [Int.zero_add]; rfl, rfl⟩ (fun j σ H' _ z => SqL.of (z.1 _ _ f4)) ?_ ?_⟩
    · rintro j xv σ H5 hj ⟨s5, lp, left, z, x6, x7, x8, x9, x10, x11, x12, l5, hw, hlt, hll, hv5, hz, rfl⟩
      have s05 := s04.trans s5
      obtain ⟨q1, hq1, rfl⟩ : ∃ q1, qs[j]? = some q1 ∧ xv = V.ref q1 := by
        rw [List.getElem?_map] at hj
        cases e : qs[j]? with
        | none => rw [e] at hj; cases hj
        | some y => rw [e] at hj; exact ⟨y, rfl, (Option.some.inj hj).symm⟩
      have hjl : j < ps.length := by
        have h1 := (List.getElem?_eq_some_iff.mp hq1).1
        have h2 := hP.len
        rw [List.length_map] at h2
        omega
      have hdr : ps.drop j = ps[j] :: ps.drop (j + 1) := List.drop_eq_getElem_cons hjl
      have hpm : ps[j] ∈ ps := List.getElem_mem hjl
      have hsh := hi.sh ps[j] hpm
      have hgj : (ps.map (·.1))[j]? = some (ps[j]).1 := by rw [List.getElem?_map, List.getElem?_eq_getElem hjl]; rfl
      obtain ⟨v, rp, e1, e2⟩ := hP4.at' j q1 _ hq1 hgj
      have ok := hF _ (List.mem_of_getElem? hgj)
      rw [hdr] at hv5 hz
      generalize ps.drop (j + 1) = rest at hv5 hz
      generalize ps[j] = pc at hv5 hz hsh e2 ok
      obtain ⟨recs, pl⟩ := pc
      have e2 : H4 rp = some (.tup (vL (recsOf im recs))) := e2
      cases left with
      | nil => exact absurd (Val_nil.mp hv5) (by simp)
      | cons x xs =>
      obtain ⟨ys, rfl, hsub, h3, hpl, hv6⟩ := Val_cons.mp hv5
      have nd : (x :: xs).Nodup := hw.imp fun h => Nat.ne_of_lt h
      have rsub : (x :: ys).Sublist (x :: xs) := List.cons_sublist_cons.mpr hsub
      have rw' : (x :: ys).Pairwise (· < ·) := List.Pairwise.sublist rsub hw
      have rnd : (x :: ys).Nodup := List.Sublist.nodup rsub nd
      have rlt : ∀ r ∈ x :: ys, r < im.length := fun r hr' => hlt r (rsub.subset hr')
      have k1 : 1 ≤ (x :: ys).length := by simp
      have k4 : (x :: ys).length ≤ 4 := by simp; omega
      have kn : (x :: ys).length ≤ (x :: xs).length := rsub.length_le
      have SR := set_rank nd hsub
      have hrk := rank_lt xs ys (List.nodup_cons.mp nd).2 hsub
      have hpat := pat_read (im := im) (pc := (x :: ys, pl)) rnd k1 k4 hpl hsh
      have hnin := names_in (im := im) (pc := (x :: ys, pl)) k1 k4 hpl hsh
      have eout : out (x :: xs) (x :: ys) = out xs ys := out_cons nd
      have henc : enc (x :: xs) ((x :: ys, pl) :: rest) = pre (x :: xs).length (x :: ys).length + ((rankL xs ys * F (x :: ys).length + pl) * K4.T ((x :: xs).length - (x :: ys).length) + enc (out xs ys) rest) := by
        rw [enc, eout]
        rfl
      rw [henc] at hz
      have hcs := ch_small (m := xs.length) (k := ys.length) (by simp at hll; omega) (by omega)
      have hFl := F_le k1 k4
      have srn := SR.num
      have srl := SR.lt
      have sri := SR.inc
      clear SR
      generalize hk : (x :: ys).length = k at *
      generalize hN : (x :: xs).length = N at *
      have vleft : (vL (x :: xs)).length = N := by rw [vL, List.length_map, hN]
      refine ⟨q1, _, rfl, SqT.of (s5 _ _ e1), rfl, _, _, rfl, _, _, rfl, rfl, ?_⟩
      refine ⟨_, rfl, _, _, rfl, .inl (SqL.of l5), ?_⟩
      rw [vleft]
      refine ⟨_, rfl, _, rfl, ia, rp, im, recsOf im (x :: ys), x :: ys, rfl, Same.seq s05 hS, SqT.of (s5 _ _ e2), ok.perm, rw', rlt, by omega, fun H6 kp t1 t2 hkp s6 ek ft et2 => ?_⟩
      rw [hk] at ek
      refine ⟨kp, _, rfl, SqT.of ek, rfl, _, _, rfl, _, _, rfl, _, _, rfl, rfl, ?_⟩
      have c6 := s6 _ _ (s5 _ _ c4)
      have l6 := s6 _ _ l5
      -- number + sum
      refine ⟨_, rfl, _, rfl, _, _, rfl, ⟨by decide, by decide, by omega, by omega⟩, fun D2 hD2 => lc_range (lo := 1) (fun i H' => Same H6 H' ∧ H' D2 = some (.lst (vL ((List.range i).map fun j => blkL (tot im.length) N (j + 1))))) ⟨same_new hD2, upd_same⟩ ?_ ?_⟩
      · rintro i H7 hi7 ⟨s7, e7⟩
        refine ⟨rfl, _, rfl, _, rfl, _, rfl, cp, tot im.length, N, i + 1, ?_, SqL.of (s7 _ _ c6), by omega, by omega, by omega, by omega, by rw [tot_len]; omega, _, e7, ?_, same_mut s7 hD2, ?_⟩
        · show [V.ref cp, V.int ((N : Nat) : Int), V.int (1 + (i : Int))] = _
          rw [show (1 + (i : Int)) = ((i + 1 : Nat) : Int) by omega]
        · rw [vL, List.length_map, List.length_map, List.length_range]
          exact szB (by omega)
        · rw [upd_same, List.range_succ, List.map_append, vL_app]
          rfl
      rintro H7 ⟨s7, e7⟩
      rw [show (((k : Nat) : Int) - 1).toNat = k - 1 by omega, ints_vL] at e7
      refine ⟨D2, _, rfl, SqL.of e7, _, _, rfl, rfl, ?_⟩
      rw [sum_cast]
      have epre : ((List.range (k - 1)).map fun j => blkL (tot im.length) N (j + 1)).sum = pre N k := by
        unfold pre
        congr 1
        exact List.map_congr_left fun j _ => blkL_eq (by omega)
      rw [epre]
      have s67 := s6.trans s7
      -- earlier
      refine ⟨_, rfl, t1, rfl, ⟨_, (ft.same s7).sq⟩, fun D3 hD3 => lc_natT (K := K) (l := x :: ys) (f := (x :: xs).idxOf) (p := fun _ => true) hD3 (ft.same s7).sq (by omega) (fun _ => rfl) (fun m hm H' Q' _ z => z) (fun m hm _ H' Q' s' z => ⟨_, rfl, .inl ⟨rfl, _, SqL.of (s' _ _ (s7 _ _ l6))⟩, _, rfl, rIndex_nat (SqL.of (s' _ _ (s7 _ _ l6))) (rsub.subset hm) z⟩) fun H8 s8 e8 => ?_⟩
      rw [filter_true] at e8
      refine ⟨_, rfl, D3, _, N, rfl, SqL.of e8, by rw [List.length_map, hk]; omega, by rw [List.length_map, hk]; omega, sri, srl, by omega, ?_⟩
      rw [srn]
      refine ⟨_, rfl, _, _, _, _, rfl, rfl, T.form _, F_at k1 k4, _, _, rfl, rfl, .inr ⟨by omega, by omega⟩, ?_⟩
      have s78 := s7.trans s8
      obtain ⟨bk, hbk⟩ : ∃ bk, as[k]? = some bk := ⟨as[k]'(by rw [hA.1]; omega), List.getElem?_eq_getElem _⟩
      obtain ⟨rsk, er, tk⟩ := hA4.2 k bk hbk
      have s58 : Same H4 H8 := s5.trans (s6.trans s78)
      refine ⟨_, rfl, _, rfl, _, rfl, D, _, _, V.ref bk, rfl, rfl, SqL.of (s58 _ _ e4), atI_nat (by rw [List.getElem?_map, hbk]; rfl), .inl ⟨rfl, _, SqL.of (s58 _ _ er)⟩, ?_⟩
      refine ⟨_, rfl, t2, rfl, ⟨_, SqT.of (s78 _ _ et2)⟩, fun D4 hD4 => lc_natT (K := K) (l := (x :: ys).map fun r => im.getD r 0) (f := (x :: ys).idxOf) (p := fun _ => true) hD4 (SqT.of (s78 _ _ et2)) (by rw [List.length_map]; omega) (fun _ => rfl) (fun m hm H' Q' _ z => z) (fun m hm _ H' Q' s' z => ?_) fun H9 s9 e9 => ?_⟩
      · obtain ⟨r, hr1, rfl⟩ := List.mem_map.mp hm
        have ft' := (ft.same s78).same s'
        exact ⟨_, rfl, t1, x :: ys, rfl, ft', _, rfl, _, rfl, ft', hnin r hr1, z⟩
      rw [filter_true, hpat] at e9
      have s59 := s58.trans s9
      refine ⟨D4, _, rfl, .inl ⟨SqL.of e9, fun tp htp => ?_⟩⟩
      have sT := same_new (o := .tup (vL (pat k pl))) htp
      refine ⟨bk, _, .tuple (dI (pat k pl)), dT (pats k), pl, .tuple (dI (pat k pl)), rfl, rfl, .lst (SqL.of (sT _ _ (s59 _ _ er))) (dp_tpls (tk.mono (s59.trans sT))), .tup (SqT.of upd_same) (dp_nat _), shaped_dT _, shaped_tI _, ?_, ?_, fun m z' hm hz' => pats_idx k1 k4 hpl hm hz', ?_⟩
      · rw [List.getElem?_map, pat_get k1 k4 hpl]
        rfl
      · rw [eqv_tI]
        exact decide_eq_true rfl
      refine ⟨_, _, rfl, rfl, ?_⟩
      have s79 : Same H6 (upd H9 tp (.tup (vL (pat k pl)))) := (s78.trans s9).trans sT
      generalize upd H9 tp (.tup (vL (pat k pl))) = H10 at sT s79 ⊢
      have cst : ((rankL xs ys : Nat) : Int) * ((F k : Nat) : Int) + ((pl : Nat) : Int) = ((rankL xs ys * F k + pl : Nat) : Int) := by
        rw [Int.natCast_add, Int.natCast_mul]
      have hbd : rankL xs ys * F k + pl < 18446744073709551616 := by
        have : rankL xs ys * F k ≤ 41665 * 42 := Nat.mul_le_mul (by omega) hFl
        omega
      refine ⟨_, rfl, _, rfl, _, rfl, _, rfl, _, rfl, _, _, rfl, rfl, cp, _, _, _, rfl, rfl, SqL.of (s79 _ _ c6), (by rw [show ((N : Int) - (k : Int)) = ((N - k : Nat) : Int) by omega]; exact tot_at (by omega)), _, _, rfl, rfl, small_mul cst hbd, _, _, rfl, rfl, ?_⟩
      have l10 := s79 _ _ l6
      refine ⟨_, rfl, lp, rfl, ⟨_, SqL.of l10⟩, fun D5 hD5 => lc_natL (K := K) (l := x :: xs) (f := fun m => m) (p := fun m => !decide (m ∈ x :: ys)) hD5 (SqL.of l10) (by omega) (fun _ => rfl) (fun m hm H' Q' s' z => ?_) (fun m hm _ H' Q' s' z => ⟨_, rfl, z⟩) fun H11 s11 e11 => ?_⟩
      · refine ⟨_, rfl, _, rfl, t1, _, rfl, .inr ((ft.same s79).same s').sq, rfl, flat_vL _, ?_⟩
        refine ⟨_, rfl, ?_⟩
        show Q' (!inV (vN m) (vL (x :: ys))) H'
        rw [inV_nat]
        exact z
      rw [filt_not] at e11
      have e11 : H11 D5 = some (.lst (vL (out (x :: xs) (x :: ys)))) := e11
      rw [eout] at e11
      have osub : (out xs ys).Sublist (x :: xs) := (out_sub xs ys).trans (List.sublist_cons_self x xs)
      refine ⟨(s5.trans (s6.trans s79)).trans s11, D5, out xs ys, _, _, _, _, _, _, _, _, e11, List.Pairwise.sublist osub hw, fun y hy => hlt y (osub.subset hy), Nat.le_trans osub.length_le (by omega), hv6, ?_, rfl⟩
      rw [← hz]
      simp only [Int.natCast_add, Int.natCast_mul]
      omega
    · rintro σ H5 ⟨s5, lp, left, z, x6, x7, x8, x9, x10, x11, x12, l5, hw, hlt, hll, hv5, hz, rfl⟩
      rw [List.length_map, hP.len, List.length_map, List.drop_length] at hz
      have hz : z + ((0 : Nat) : Int) = _ := hz
      have ez : z = ((enc (List.range im.length) ps : Nat) : Int) := by omega
      refine ⟨_, rfl, ?_⟩
      show Q (V.int z) H5
      rw [ez]
      exact q H5 (s04.trans s5)
end
end K4
end
section
namespace K4Z
open PySem PySem.Spec PyProof.Rows L2
/-! ### zip of two sources of any kind: what a source is -/
structure Src (prog : Program) (w : World) (st : Heap → Addr → Addr → Nat → Prop) (sq : Heap → Addr → Array Value → Prop) : Prop where
  item : ∀ {A : Around} {E : Value → Shared → Prop} {s : Shared} {it l : Addr} {i : Nat} {items : Array Value} {x : Value} {Q : Value → Shared → Prop}, st s.heap it l i → sq s.heap l items → items[i]? = some x →
    (∀ h', st h' it l (i + 1) → Heap.SameBut it s.heap h' → Q x { s with heap := h' }) → wpAny (model prog w) A (Builtin.SmallTypes.nextOf (.ref it)) Q E s
  stop : ∀ {A : Around} {E : Value → Shared → Prop} {s : Shared} {it l : Addr} {i : Nat} {items : Array Value} {Q : Value → Shared → Prop}, A.handled = none → st s.heap it l i → sq s.heap l items → items[i]? = none →
    (∀ h' e, Heap.ExtBut it s.heap h' → (∃ o, h'.get? e = some o ∧ o.cls = .type "StopIteration") → E (.ref e) { s with heap := h' }) → wpAny (model prog w) A (Builtin.SmallTypes.nextOf (.ref it)) Q E s
  far : ∀ {h h' : Heap} {it l b : Addr} {i : Nat}, st h it l i → Heap.ExtBut b h h' → it ≠ b → st h' it l i
  farq : ∀ {h h' : Heap} {l b : Addr} {xs : Array Value}, sq h l xs → Heap.ExtBut b h h' → l ≠ b → sq h' l xs
theorem srcList (prog : Program) (w : World) : Src prog w (fun h it l i => h.IsListIter it l i) (fun h l xs => h.IsList l xs) where
  item := fun a b c d => wpAny_nextOf_list_item a b c d
  stop := fun a b c d e => wpAny_nextOf_list_end a b c d e
  far := fun a b c => a.extBut b c
  farq := fun a b c => a.extBut b c
theorem srcTup (prog : Program) (w : World) : Src prog w (fun h it l i => h.IsTupleIter it l i) (fun h l xs => h.IsTuple l xs) where
  item := fun a b c d => RZ.nextOf_tuple_item a b c d
  stop := fun a b c d e => RZ.nextOf_tuple_end a b c d e
  far := fun a b c => a.extBut b c
  farq := fun a b c => a.extBut b c
/-- all but the zip's own records stands -/
abbrev Kept (z TO i1 i2 : Addr) (h h' : Heap) : Prop := ∀ c o, c ≠ z → c ≠ TO → c ≠ i1 → c ≠ i2 → h.get? c = some o → h'.get? c = some o
section
variable {prog : Program} {w : World} {A : Around} {E : Value → Shared → Prop} {s : Shared} {st1 st2 : Heap → Addr → Addr → Nat → Prop} {sq1 sq2 : Heap → Addr → Array Value → Prop} {z TI TO i1 i2 l1 l2 : Addr} {k1 k2 : Nat} {xs ys : Array Value} {a b : Value}
theorem zip_item {x y : Value} {Q : Value → Shared → Prop} (S1 : Src prog w st1 sq1) (S2 : Src prog w st2 sq2) (D : ZipApart z TI TO i1 i2 l1 l2) (hz : IsZip s.heap z TI TO .none) (hTI : IsPair s.heap TI (.ref i1) (.ref i2)) (hTO : IsPair s.heap TO a b)
    (h1 : st1 s.heap i1 l1 k1) (h2 : st2 s.heap i2 l2 k2) (hl1 : sq1 s.heap l1 xs) (hl2 : sq2 s.heap l2 ys) (hx : xs[k1]? = some x) (hy : ys[k2]? = some y)
    (hQ : ∀ h', IsZip h' z TI TO (rawInt s.heap.objs.size) → IsPair h' TO x y → st1 h' i1 l1 (k1 + 1) → st2 h' i2 l2 (k2 + 1) → IsPair h' s.heap.objs.size x y → h'.objs.size = s.heap.objs.size + 1 → Kept z TO i1 i2 s.heap h' → Q (.ref s.heap.objs.size) { s with heap := h' })
    (lt1 : i1 < s.heap.objs.size) (lt2 : i2 < s.heap.objs.size) : wpAny (model prog w) A (Builtin.«zip.__next__» ⟨[.ref z], []⟩) (fun fin s' => ∃ v, fin = .done (.ret v) ∧ Q v s') E s := by
  show wpAny _ _ (field (.ref z) 2 >>= _) _ _ _
  refine wpAny_bind (wpAny_field hz rfl (x := .bool false) rfl ?_)
  show wpAny _ _ (field (.ref z) 3 >>= _) _ _ _
  refine wpAny_bind (wpAny_field hz rfl (x := .ref TI) rfl (wpAny_bind (wpAny_seqItems hTI rfl ?_)))
  show wpAny _ _ (Builtin.SmallTypes.ownedTupleIsFree (.ref z) >>= _) _ _ _
  refine wpAny_bind ?_
  unfold Builtin.SmallTypes.ownedTupleIsFree
  refine wpAny_bind (wpAny_field hz rfl (x := .none) rfl (wpAny_pure ?_))
  simp only [if_true]
  refine wpAny_bind (wpAny_rule (wpAny_bind (wpAny_field hz rfl (x := .ref TO) rfl (wpAny_bind (wpAny_setField_rec hz (by simp) fun g1 gz1 e1 => ?_)))))
  have gz1 : IsZip g1 z TI TO .ellipsis := gz1
  refine wpAny_bind ?_
  simp only [List.zipIdx_cons, List.zipIdx_nil, List.forIn_cons, List.forIn_nil]
  refine wpAny_bind (wpAny_bind (wpAny_onRaise ?_))
  show wpAny _ _ (Builtin.SmallTypes.nextOf (.ref i1) >>= _) _ _ _
  refine wpAny_bind (S1.item (S1.far h1 e1.extBut D.i1z) (S1.farq hl1 e1.extBut D.l1z) hx fun g2 t1 e2 => wpAny_pure ?_)
  have p2 : IsPair g2 TO a b := e2.extBut _ _ D.TOi1 (e1.extBut _ _ D.TOz hTO)
  refine wpAny_bind (wpAny_seqItems p2 rfl (wpAny_bind (wpAny_updateSeq_pair p2 fun g3 p3 e3 => wpAny_bind (wpAny_letGo (wpAny_pure ?_)))))
  have p3 : IsPair g3 TO x b := p3
  refine wpAny_bind (wpAny_bind (wpAny_onRaise ?_))
  show wpAny _ _ (Builtin.SmallTypes.nextOf (.ref i2) >>= _) _ _ _
  have h2' := S2.far (S2.far (S2.far h2 e1.extBut D.i2z) e2.extBut D.i12.symm) e3.extBut D.TOi2.symm
  have hl2' := S2.farq (S2.farq (S2.farq hl2 e1.extBut D.l2z) e2.extBut D.l2i1) e3.extBut D.l2TO
  refine wpAny_bind (S2.item h2' hl2' hy fun g4 t2 e4 => wpAny_pure ?_)
  have p4 : IsPair g4 TO x b := e4.extBut _ _ D.TOi2 p3
  refine wpAny_bind (wpAny_seqItems p4 rfl (wpAny_bind (wpAny_updateSeq_pair p4 fun g5 p5 e5 => wpAny_bind (wpAny_letGo (wpAny_pure (wpAny_pure ?_))))))
  have p5 : IsPair g5 TO x y := p5
  refine wpAny_bind (wpAny_seqItems p5 rfl (wpAny_bind (wpAny_newTuple ?_)))
  have hsz : g5.objs.size = s.heap.objs.size := by rw [e5.1, e4.1, e3.1, e2.1, e1.1]
  have gz5 : IsZip g5 z TI TO .ellipsis := e5.extBut _ _ D.TOz.symm (e4.extBut _ _ D.i2z.symm (e3.extBut _ _ D.TOz.symm (e2.extBut _ _ D.i1z.symm gz1)))
  have k5 : Kept z TO i1 i2 s.heap g5 := fun c o c1 c2 c3 c4 e => e5.extBut _ _ c2 (e4.extBut _ _ c4 (e3.extBut _ _ c2 (e2.extBut _ _ c3 (e1.extBut _ _ c1 e))))
  have t1' := S1.far (S1.far (S1.far t1 e3.extBut D.TOi1.symm) e4.extBut D.i12) e5.extBut D.TOi1.symm
  have t2' := S2.far t2 e5.extBut D.TOi2.symm
  have ltz : z < g5.objs.size := Heap.lt_size gz5
  show wpAny _ _ (Builtin.SmallTypes.ownedTupleHandOut (.ref z) (.ref g5.objs.size) >>= _) _ _ _
  refine wpAny_bind ?_
  unfold Builtin.SmallTypes.ownedTupleHandOut
  have gz6 : IsZip (g5.push { cls := .type "tuple", data := .seq #[x, y] }) z TI TO .ellipsis := Heap.get?_push_of_some _ gz5
  refine wpAny_bind (wpAny_setField_rec gz6 (by simp) fun g7 gz7 e7 => ?_)
  have gz7 : IsZip g7 z TI TO (rawInt g5.objs.size) := gz7
  refine wpAny_setField_rec gz7 (by simp) fun g8 gz8 e8 => ?_
  have gz8 : IsZip g8 z TI TO (rawInt g5.objs.size) := gz8
  have up : Heap.ExtBut z g5 g8 := fun c o c1 e => e8.extBut _ _ c1 (e7.extBut _ _ c1 (Heap.get?_push_of_some _ e))
  have pT : IsPair g8 g5.objs.size x y := e8.extBut _ _ (Nat.ne_of_gt ltz) (e7.extBut _ _ (Nat.ne_of_gt ltz) (Heap.get?_push_size _ rfl))
  have hs8 : g8.objs.size = g5.objs.size + 1 := by rw [e8.1, e7.1, Heap.size_push]
  rw [hsz] at gz8 pT hs8
  refine wpAny_pure ⟨_, rfl, ?_⟩
  show Q (.ref g5.objs.size) _
  rw [hsz]
  exact hQ g8 gz8 (up _ _ D.TOz p5) (S1.far t1' up D.i1z) (S2.far t2' up D.i2z) pT hs8 fun c o c1 c2 c3 c4 e => up c o c1 (k5 c o c1 c2 c3 c4 e)
theorem zip_stop {Q : PySem.Fin → Shared → Prop} (S1 : Src prog w st1 sq1) (S2 : Src prog w st2 sq2) (hh : A.handled = none) (D : ZipApart z TI TO i1 i2 l1 l2) (hz : IsZip s.heap z TI TO .none) (hTI : IsPair s.heap TI (.ref i1) (.ref i2)) (hTO : IsPair s.heap TO a b)
    (h1 : st1 s.heap i1 l1 k1) (h2 : st2 s.heap i2 l2 k2) (hl1 : sq1 s.heap l1 xs) (hl2 : sq2 s.heap l2 ys) (hend : xs[k1]? = none ∨ ys[k2]? = none)
    (hE : ∀ h' e, Kept z TO i1 i2 s.heap h' → (∃ o, h'.get? e = some o ∧ o.cls = .type "StopIteration") → E (.ref e) { s with heap := h' }) :
    wpAny (model prog w) A (Builtin.«zip.__next__» ⟨[.ref z], []⟩) Q E s := by
  show wpAny _ _ (field (.ref z) 2 >>= _) _ _ _
  refine wpAny_bind (wpAny_field hz rfl (x := .bool false) rfl ?_)
  show wpAny _ _ (field (.ref z) 3 >>= _) _ _ _
  refine wpAny_bind (wpAny_field hz rfl (x := .ref TI) rfl (wpAny_bind (wpAny_seqItems hTI rfl ?_)))
  show wpAny _ _ (Builtin.SmallTypes.ownedTupleIsFree (.ref z) >>= _) _ _ _
  refine wpAny_bind ?_
  unfold Builtin.SmallTypes.ownedTupleIsFree
  refine wpAny_bind (wpAny_field hz rfl (x := .none) rfl (wpAny_pure ?_))
  simp only [if_true]
  refine wpAny_bind (wpAny_rule (wpAny_bind (wpAny_field hz rfl (x := .ref TO) rfl (wpAny_bind (wpAny_setField_rec hz (by simp) fun g1 gz1 e1 => ?_)))))
  have gz1 : IsZip g1 z TI TO .ellipsis := gz1
  refine wpAny_bind ?_
  simp only [List.zipIdx_cons, List.zipIdx_nil, List.forIn_cons, List.forIn_nil]
  refine wpAny_bind (wpAny_bind (wpAny_onRaise ?_))
  show wpAny _ _ (Builtin.SmallTypes.nextOf (.ref i1) >>= _) _ _ _
  have fin : ∀ (g : Heap) (e : Addr), IsZip g z TI TO .ellipsis → Kept z TO i1 i2 s.heap g → (∃ o, g.get? e = some o ∧ o.cls = .type "StopIteration") → wpAny (model prog w) A (setField (.ref z) 0 .none) (fun _ s' => E (.ref e) s') E { s with heap := g } := by
    intro g e gz k ⟨oe, hoe, hce⟩
    have hez : e ≠ z := fun q => by subst q; rw [gz] at hoe; cases hoe; simp at hce
    exact wpAny_setField_rec gz (by simp) fun g' _ e' => hE g' e (fun c o c1 c2 c3 c4 q => e'.extBut _ _ c1 (k c o c1 c2 c3 c4 q)) ⟨oe, e'.extBut _ _ hez hoe, hce⟩
  cases hx : xs[k1]? with
  | none => exact wpAny_bind (S1.stop hh (S1.far h1 e1.extBut D.i1z) (S1.farq hl1 e1.extBut D.l1z) hx fun g2 e e2 he => fin g2 e (e2 _ _ D.i1z.symm gz1) (fun c o c1 _ c3 _ q => e2 _ _ c3 (e1.extBut _ _ c1 q)) he)
  | some x =>
    have hy : ys[k2]? = none := by rcases hend with h | h; rw [hx] at h; cases h; exact h
    refine wpAny_bind (S1.item (S1.far h1 e1.extBut D.i1z) (S1.farq hl1 e1.extBut D.l1z) hx fun g2 t1 e2 => wpAny_pure ?_)
    have p2 : IsPair g2 TO a b := e2.extBut _ _ D.TOi1 (e1.extBut _ _ D.TOz hTO)
    refine wpAny_bind (wpAny_seqItems p2 rfl (wpAny_bind (wpAny_updateSeq_pair p2 fun g3 p3 e3 => wpAny_bind (wpAny_letGo (wpAny_pure ?_)))))
    refine wpAny_bind (wpAny_bind (wpAny_onRaise ?_))
    show wpAny _ _ (Builtin.SmallTypes.nextOf (.ref i2) >>= _) _ _ _
    have h2' := S2.far (S2.far (S2.far h2 e1.extBut D.i2z) e2.extBut D.i12.symm) e3.extBut D.TOi2.symm
    have hl2' := S2.farq (S2.farq (S2.farq hl2 e1.extBut D.l2z) e2.extBut D.l2i1) e3.extBut D.l2TO
    exact wpAny_bind (S2.stop hh h2' hl2' hy fun g4 e e4 he => fin g4 e (e4 _ _ D.i2z.symm (e3.extBut _ _ D.TOz.symm (e2.extBut _ _ D.i1z.symm gz1))) (fun c o c1 c2 c3 c4 q => e4 _ _ c4 (e3.extBut _ _ c2 (e2.extBut _ _ c3 (e1.extBut _ _ c1 q)))) he)
theorem pyNext_item {x y : Value} {Q : Option Value → Shared → Prop} (S1 : Src prog w st1 sq1) (S2 : Src prog w st2 sq2) (D : ZipApart z TI TO i1 i2 l1 l2) (hz : IsZip s.heap z TI TO .none) (hTI : IsPair s.heap TI (.ref i1) (.ref i2)) (hTO : IsPair s.heap TO a b)
    (h1 : st1 s.heap i1 l1 k1) (h2 : st2 s.heap i2 l2 k2) (hl1 : sq1 s.heap l1 xs) (hl2 : sq2 s.heap l2 ys) (hx : xs[k1]? = some x) (hy : ys[k2]? = some y) (lt1 : i1 < s.heap.objs.size) (lt2 : i2 < s.heap.objs.size)
    (hQ : ∀ h', IsZip h' z TI TO (rawInt s.heap.objs.size) → IsPair h' TO x y → st1 h' i1 l1 (k1 + 1) → st2 h' i2 l2 (k2 + 1) → IsPair h' s.heap.objs.size x y → h'.objs.size = s.heap.objs.size + 1 → Kept z TO i1 i2 s.heap h' → Q (some (.ref s.heap.objs.size)) { s with heap := h' }) :
    wpAny (model prog w) A (pyNext (.ref z)) Q E s := by
  have hT : s.TypeIs (.ref z) "zip" := ⟨_, hz, rfl⟩
  unfold pyNext
  exact wpAny_bind (wpAny_attempt (wpAny_callSpecial?_slot (name := Str.ofString "__next__") hT F.slot_zip_next (wpAny_call_entry F.slot_zip_next hT F.entry_zip_next
    (zip_item S1 S2 D hz hTI hTO h1 h2 hl1 hl2 hx hy (fun h' a1 a2 a3 a4 a5 a6 a7 => wpAny_pure (hQ h' a1 a2 a3 a4 a5 a6 a7)) lt1 lt2) (F.args_zip_next_1 _))))
theorem pyNext_stop {Q : Option Value → Shared → Prop} (S1 : Src prog w st1 sq1) (S2 : Src prog w st2 sq2) (hh : A.handled = none) (D : ZipApart z TI TO i1 i2 l1 l2) (hz : IsZip s.heap z TI TO .none) (hTI : IsPair s.heap TI (.ref i1) (.ref i2)) (hTO : IsPair s.heap TO a b)
    (h1 : st1 s.heap i1 l1 k1) (h2 : st2 s.heap i2 l2 k2) (hl1 : sq1 s.heap l1 xs) (hl2 : sq2 s.heap l2 ys) (hend : xs[k1]? = none ∨ ys[k2]? = none)
    (hQ : ∀ h', Kept z TO i1 i2 s.heap h' → Q none { s with heap := h' }) : wpAny (model prog w) A (pyNext (.ref z)) Q E s := by
  have hT : s.TypeIs (.ref z) "zip" := ⟨_, hz, rfl⟩
  unfold pyNext
  refine wpAny_bind (wpAny_attempt (wpAny_callSpecial?_slot (name := Str.ofString "__next__") hT F.slot_zip_next (wpAny_call_entry F.slot_zip_next hT F.entry_zip_next
    (zip_stop S1 S2 hh D hz hTI hTO h1 h2 hl1 hl2 hend fun h' e hk he => ?_) (F.args_zip_next_1 _))))
  obtain ⟨o, ho, hc⟩ := he
  exact wpAny_bind (wpAny_isInstance (T := "StopIteration") (b := true) ⟨o, ho, hc⟩ isSubtype_stop (wpAny_pure (hQ _ hk)))
end
/-! ### zip(list, tuple): made -/
abbrev mH1 (h : Heap) (l1 : Addr) : Heap := h.push { cls := .type "list_iterator", data := .fields #[.ref l1, .int 0 0] }
abbrev mH2 (h : Heap) (l1 l2 : Addr) : Heap := (mH1 h l1).push { cls := .type "tuple_iterator", data := .fields #[.ref l2, .int 0 0] }
abbrev mH3 (h : Heap) (l1 l2 : Addr) : Heap := (mH2 h l1 l2).push { cls := .type "tuple", data := .seq #[.ref h.objs.size, .ref (mH1 h l1).objs.size] }
abbrev mH4 (h : Heap) (l1 l2 : Addr) : Heap := (mH3 h l1 l2).push { cls := .type "tuple", data := .seq #[.none, .none] }
abbrev mH5 (h : Heap) (l1 l2 : Addr) : Heap := (mH4 h l1 l2).push { cls := .type "zip", data := .fields #[.none, .bool false, .bool false, .ref (mH2 h l1 l2).objs.size, .ref (mH3 h l1 l2).objs.size] }
theorem meets_mixed (l1 l2 : Addr) (xs ys : Array Value) :
    Meets (Builtin.«zip.__new__» ⟨[.type "zip", .ref l1, .ref l2], []⟩) (fun _ R s => s.heap.IsList l1 xs ∧ s.heap.IsTuple l2 ys ∧ R (.ok (.ret (.ref (mH4 s.heap l1 l2).objs.size))) { s with heap := mH5 s.heap l1 l2 }) :=
  .of_wp fun prog w A R s h => by
    obtain ⟨hp, g, d, tk, os⟩ := s; obtain ⟨hl1, hl2, h⟩ := h
    have hsub := sub_zip
    have hA : Heap.IsList (Shared.heap ⟨hp, g, d, tk, os⟩) l1 xs := hl1
    have hB : Heap.IsTuple (Shared.heap ⟨hp.push { cls := .type "list_iterator", data := .fields #[.ref l1, .int 0 0] }, g, d, tk, os⟩) l2 ys := Heap.IsTuple.push hl2 _
    wp_walk using wpAny_pyIter_list hA, wpAny_pyIter_tuple hB
    exact ⟨_, rfl, h⟩
theorem call_mixed {prog : Program} {w : World} {A : Around} {E : Value → Shared → Prop} {s : Shared} {l1 l2 : Addr} {xs ys : Array Value} {Q : Value → Shared → Prop} (hl1 : s.heap.IsList l1 xs) (hl2 : s.heap.IsTuple l2 ys)
    (h : ∀ h', IsZip h' (s.heap.objs.size + 4) (s.heap.objs.size + 2) (s.heap.objs.size + 3) .none → IsPair h' (s.heap.objs.size + 2) (.ref s.heap.objs.size) (.ref (s.heap.objs.size + 1)) → IsPair h' (s.heap.objs.size + 3) .none .none →
      h'.IsListIter s.heap.objs.size l1 0 → h'.IsTupleIter (s.heap.objs.size + 1) l2 0 → (∀ c o, s.heap.get? c = some o → h'.get? c = some o) → Q (.ref (s.heap.objs.size + 4)) { s with heap := h' }) :
    wpAny (model prog w) A (call (.type "zip") [.ref l1, .ref l2]) Q E s := by
  refine callType_new F.called_zip (by decide) (F.typeCall_zip_2 _ _) (F.newCall_zip_2 _ _) (fun obj => F.args_object_init_3 obj _ _) F.entry_zip_new (meets_mixed l1 l2 xs ys) ⟨hl1, hl2, ?_⟩
  have z1 : (mH1 s.heap l1).objs.size = s.heap.objs.size + 1 := Heap.size_push ..
  have z2 : (mH2 s.heap l1 l2).objs.size = s.heap.objs.size + 2 := by rw [Heap.size_push, z1]
  have z3 : (mH3 s.heap l1 l2).objs.size = s.heap.objs.size + 3 := by rw [Heap.size_push, z2]
  have z4 : (mH4 s.heap l1 l2).objs.size = s.heap.objs.size + 4 := by rw [Heap.size_push, z3]
  have up : ∀ {g : Heap} {o : Obj} (c : Addr) (u : Obj), g.get? c = some u → (g.push o).get? c = some u := fun c u e => Heap.get?_push_of_some _ e
  have g5 : (mH5 s.heap l1 l2).get? (mH4 s.heap l1 l2).objs.size = some _ := Heap.get?_push_size _ rfl
  have g4 : (mH5 s.heap l1 l2).get? (mH3 s.heap l1 l2).objs.size = some _ := up _ _ (Heap.get?_push_size _ rfl)
  have g3 : (mH5 s.heap l1 l2).get? (mH2 s.heap l1 l2).objs.size = some _ := up _ _ (up _ _ (Heap.get?_push_size _ rfl))
  have g2 : (mH5 s.heap l1 l2).get? (mH1 s.heap l1).objs.size = some _ := up _ _ (up _ _ (up _ _ (Heap.get?_push_size _ rfl)))
  have g1 : (mH5 s.heap l1 l2).get? s.heap.objs.size = some _ := up _ _ (up _ _ (up _ _ (up _ _ (Heap.get?_push_size _ rfl))))
  show _ ∧ _
  rw [z2, z3, z4] at g5
  rw [z1, z2] at g3
  rw [z3] at g4
  rw [z1] at g2
  rw [z4]
  exact ⟨⟨_, g5, rfl⟩, h _ g5 g3 g4 ⟨_, g1, rfl, rfl⟩ ⟨_, g2, rfl, rfl⟩ fun c o q => up _ _ (up _ _ (up _ _ (up _ _ (up _ _ q))))⟩
/-! ### as an iterable -/
def Itm (K : PySem.W.Frag) (a b : Addr) : It :=
  ⟨fun i H => ∃ (xs ys : List V) (x y : V), SqL K H a xs ∧ SqT K H b ys ∧ xs[i]? = some x ∧ ys[i]? = some y,
    fun i H v H' => ∃ T x y, v = .ref T ∧ H T = none ∧ H' = upd H T (.tup [x, y]) ∧ (∀ xs, SqL K H a xs → xs[i]? = some x) ∧ ∀ ys, SqT K H b ys → ys[i]? = some y,
    fun i H => ∃ xs ys : List V, SqL K H a xs ∧ SqT K H b ys ∧ (xs.length ≤ i ∨ ys.length ≤ i)⟩
theorem turn_mixed {P : Program} {w : World} {K : PySem.W.Frag} {elts : List Expr} {kk : Nat} {tpos : Pos} {a b z TI TO i1 i2 : Addr} (D : ZipApart z TI TO i1 i2 a b) :
    Turn P w K (.Tuple elts kk tpos) (Itm K a b) [z, TI, TO, i1, i2] z (fun i h => IsZip h z TI TO .none ∧ IsPair h TI (.ref i1) (.ref i2) ∧ (∃ x y, IsPair h TO x y) ∧ h.IsListIter i1 a i ∧ h.IsTupleIter i2 b i) where
  mem := by simp
  obj := fun i h st c hc => by
    obtain ⟨hz, hTI, ⟨x, y, hTO⟩, ⟨o1, e1, _, d1⟩, ⟨o2, e2, _, d2⟩⟩ := st
    have e' : c = z ∨ c = TI ∨ c = TO ∨ c = i1 ∨ c = i2 := by simpa using hc
    rcases e' with rfl | rfl | rfl | rfl | rfl
    · exact ⟨_, hz, fun v q => nomatch q⟩
    · exact ⟨_, hTI, fun v q => nomatch q⟩
    · exact ⟨_, hTO, fun v q => nomatch q⟩
    · exact ⟨o1, e1, fun v q => by rw [d1] at q; cases q⟩
    · exact ⟨o2, e2, fun v q => by rw [d2] at q; cases q⟩
  keep := fun i h h' st k => by
    obtain ⟨hz, hTI, ⟨x, y, hTO⟩, h1, h2⟩ := st
    exact ⟨k z (by simp) _ hz, k TI (by simp) _ hTI, ⟨x, y, k TO (by simp) _ hTO⟩, h1.at fun o q => k i1 (by simp) o q, h2.at fun o q => k i2 (by simp) o q⟩
  item := by
    intro X hP hw hK hc i pins s σ H E I hf st hg
    subst hP hw hK
    obtain ⟨hz, hTI, ⟨x0, y0, hTO⟩, h1, h2⟩ := st
    obtain ⟨xs, ys, x, y, hqx, hqy, hx, hy⟩ := hg
    obtain ⟨its, rv, p, _⟩ := I.list hqx
    obtain ⟨its2, rv2, p2, _⟩ := I.tuple hqy
    obtain ⟨u, hu, ru⟩ := rv.get hx
    obtain ⟨u2, hu2, ru2⟩ := rv2.get hy
    have hzl : z < s.heap.objs.size := Heap.lt_size hz
    have lt1 : i1 < s.heap.objs.size := by obtain ⟨_, e, _⟩ := h1; exact Heap.lt_size e
    have lt2 : i2 < s.heap.objs.size := by obtain ⟨_, e, _⟩ := h2; exact Heap.lt_size e
    refine pyNext_item (srcList X.prog X.w) (srcTup X.prog X.w) D hz hTI hTO h1 h2 p.isList p2 (x := u) (y := u2) (by simpa using hu) (by simpa using hu2) lt1 lt2 fun h' z' TO' h1' h2' hT hsz hk => ?_
    refine ⟨_, rfl, wpAny_letOwnedTupleGo_zip (s := { s with heap := h' }) z' fun h'' z'' sb => ?_⟩
    have hT2 : h''.get? s.heap.objs.size = some { cls := .type "tuple", data := .seq #[u, u2] } := (sb.2 _ (Nat.ne_of_gt hzl)).trans hT
    have new : ObjOk X.prog X.w (upd H s.heap.objs.size (.tup [x, y])) h'' s.heap.objs.size (.tup [x, y]) := ⟨by show 2 ≤ sizeLine; decide, [u, u2], .cons ru (.cons ru2 .nil), ⟨_, hT2, rfl, _, rfl⟩⟩
    have I1 : L2.Inv X pins σ (upd H s.heap.objs.size (.tup [x, y])) { s with heap := h'' } :=
      I.turnedNew (t' := s.toks) (ch := [z, TI, TO, i1, i2]) (fun c o hb q => (sb.2 c (fun q' => hb (by simp [q']))).trans (hk c o (fun q' => hb (by simp [q'])) (fun q' => hb (by simp [q'])) (fun q' => hb (by simp [q'])) (fun q' => hb (by simp [q'])) q)) hf (Nat.le_refl _) new
    refine ⟨.ref s.heap.objs.size, _, I1, rfl, ⟨_, x, y, rfl, I.hok.fresh (Nat.le_refl _), rfl, fun l hl => by rw [I.list_inj hl hqx]; exact hx, fun l hl => by rw [I.tuple_inj hl hqy]; exact hy⟩, ⟨z'', ?_, ⟨u, u2, ?_⟩, ?_, ?_⟩, fun c hcm => ?_⟩
    · exact (sb.2 _ D.TIz).trans (hk _ _ D.TIz D.TITO D.TIi1 D.TIi2 hTI)
    · exact (sb.2 _ D.TOz).trans TO'
    · exact h1'.at fun o q => (sb.2 _ D.i1z).trans q
    · exact h2'.at fun o q => (sb.2 _ D.i2z).trans q
    · have hlt : c < s.heap.objs.size := by
        have e' : c = z ∨ c = TI ∨ c = TO ∨ c = i1 ∨ c = i2 := by simpa using hcm
        rcases e' with rfl | rfl | rfl | rfl | rfl
        · exact hzl
        · exact Heap.lt_size hTI
        · exact Heap.lt_size hTO
        · exact lt1
        · exact lt2
      rw [upd_ne (Nat.ne_of_lt hlt)]
      exact (hf c hcm).1
  done := by
    intro X hP hw hK hc i pins s σ H E I hf st hg
    subst hP hw hK
    obtain ⟨hz, hTI, ⟨x0, y0, hTO⟩, h1, h2⟩ := st
    obtain ⟨xs, ys, hqx, hqy, hend⟩ := hg
    obtain ⟨its, rv, p, _⟩ := I.list hqx
    obtain ⟨its2, rv2, p2, _⟩ := I.tuple hqy
    have e1 := rv.length
    have e2 := rv2.length
    have he : its.toArray[i]? = none ∨ its2.toArray[i]? = none := by
      rcases hend with q | q
      · exact .inl (by simp; omega)
      · exact .inr (by simp; omega)
    exact pyNext_stop (srcList X.prog X.w) (srcTup X.prog X.w) (I.ok.hd hc) D hz hTI hTO h1 h2 p.isList p2 he fun h' hk => ⟨rfl, I.turnedL (t' := s.toks) (ch := [z, TI, TO, i1, i2]) (fun c o hb q =>
      hk c o (fun q' => hb (by simp [q'])) (fun q' => hb (by simp [q'])) (fun q' => hb (by simp [q'])) (fun q' => hb (by simp [q'])) q) hf⟩
  self := fun A i s Q E st h => wpAny_pyIter_zip st.1 h
def iZipM (K : PySem.W.Frag) (ta : TA) : TI := fun σ H R => ta σ H fun vs H1 => ∃ a b xs ys, vs = [.ref a, .ref b] ∧ SqL K H1 a xs ∧ SqT K H1 b ys ∧ R (Itm K a b) H1
theorem pi_zipM {X : Cx} {e e2 : Expr} {ta : TA} {p pos tpos : Pos} {elts : List Expr} {kk : Nat} (hg : Gl X "zip") (hm : X.mg "zip" = none) (ha : PA X [e, e2] ta)
    (hs : starEach [e, e2] X.env = (false, eval e X.env) :: starEach [e2] X.env := by rfl) (hpl : (backTo pos (starEach [e2] X.env)).any (·.1) = false := by rfl) :
    PI X (.Tuple elts kk tpos) (.Call (.Name "zip" p) [e, e2] [] pos) (iZipM X.K ta) := by
  refine ⟨fun pins s σ H R I h => ?_⟩
  refine Call_ (ld_blt I hg hm PyProof.Rows.boot_zip (PyProof.Rows.callWith_type1 (thn (ha.run pos pins s σ H _ I h) fun us s1 ⟨vs, H1, I1, r1, q1⟩ => ?_) hs hpl))
  obtain ⟨a, b, xs, ys, ex, hqx, hqy, q⟩ := q1
  subst ex
  obtain ⟨u1, u2, rfl, r, r'⟩ := vals2 r1
  cases r
  cases r'
  obtain ⟨its, rv, p1, _⟩ := I1.list hqx
  obtain ⟨its2, rv2, p2, _⟩ := I1.tuple hqy
  obtain ⟨o2, ho2, _⟩ := id p2
  refine call_mixed p1.isList (show s1.heap.IsTuple b its2.toArray from p2) fun h' hz hTI hTO h1 h2 hk => wpAny_pyIter_zip hz ?_
  have I2 : L2.Inv X pins σ H1 { s1 with heap := h' } := I1.kept (t' := s1.toks) hk
  refine ⟨s1.heap.objs.size + 4, [s1.heap.objs.size + 4, s1.heap.objs.size + 2, s1.heap.objs.size + 3, s1.heap.objs.size, s1.heap.objs.size + 1], _, _, H1, rfl, I2, turn_mixed (PySem.W.ktu_apart s1.heap.objs.size a b p1.lt (Heap.lt_size ho2)), ⟨hz, hTI, ⟨_, _, hTO⟩, h1, h2⟩, fun c hcm => ?_, q⟩
  have hle : s1.heap.objs.size ≤ c := by
    simp only [List.mem_cons, List.not_mem_nil, or_false] at hcm
    rcases hcm with e | e | e | e | e <;> rw [e] <;> first | exact Nat.le_refl _ | exact Nat.le_add_right _ _
  exact I1.fpOk hle (I1.hok.fresh hle)
theorem for_zipM {K : PySem.W.Frag} {a b : Addr} {xs ys : List V} {g : TG} {tb : TS} {D : Ends} {σ : L2.St} {H : Hp} (hl : xs.length = ys.length) (Pv : Nat → L2.St → Hp → Prop) (h0 : Pv 0 σ H) (hq : ∀ i σ H, Pv i σ H → SqL K H a xs ∧ SqT K H b ys)
    (hs : ∀ (i : Nat) (x y : V) (T : Addr) (σ : L2.St) (H : Hp), xs[i]? = some x → ys[i]? = some y → Pv i σ H → H T = none → g (.ref T) σ (upd H T (.tup [x, y])) fun σ2 H2 => tb { D with nx := Pv (i + 1), ct := Pv (i + 1), bk := D.nx } σ2 H2) (hd : ∀ σ H, Pv xs.length σ H → D.nx σ H) :
    ∃ W : Nat → Nat → L2.St → Hp → Prop, (∃ m, W 0 m σ H) ∧ ∀ i m σ H, W i m σ H →
      ((Itm K a b).stop i H ∧ D.nx σ H) ∨ ((Itm K a b).go i H ∧ ∃ N : L2.St → Hp → Prop, (∀ σ' H', N σ' H' → ∃ m', m' < m ∧ W (i + 1) m' σ' H') ∧ ∀ v H', (Itm K a b).yld i H v H' → g v σ H' fun σ2 H2 => tb { D with nx := N, ct := N, bk := D.nx } σ2 H2) := by
  refine ⟨fun i m σ H => m = xs.length - i ∧ i ≤ xs.length ∧ Pv i σ H, ⟨xs.length, rfl, Nat.zero_le _, h0⟩, ?_⟩
  rintro i m σ H ⟨rfl, hi, p⟩
  obtain ⟨qx, qy⟩ := hq i σ H p
  by_cases hlt : i < xs.length
  · have hx : xs[i]? = some xs[i] := List.getElem?_eq_getElem hlt
    have hy : ys[i]? = some (ys[i]'(by omega)) := List.getElem?_eq_getElem (by omega)
    refine .inr ⟨⟨xs, ys, _, _, qx, qy, hx, hy⟩, Pv (i + 1), fun σ' H' p' => ⟨xs.length - (i + 1), by omega, rfl, hlt, p'⟩, fun v H' yl => ?_⟩
    obtain ⟨T, x, y, rfl, hT, rfl, fx, fy⟩ := yl
    exact hs i x y T σ H (fx xs qx) (fy ys qy) p hT
  · have e : i = xs.length := by omega
    subst e
    exact .inl ⟨⟨xs, ys, qx, qy, .inl (Nat.le_refl _)⟩, hd σ H p⟩
end K4Z
end
section
namespace K4
open PySem PySem.Spec PyProof.Rows L2
/-! ### the error: what making it leaves, reading it -/
/-- a made error of the class at C: its own dict at d holds the value -/
structure OwnMade (h h' : Heap) (e C d : Addr) (v : Value) : Prop where
  keep : ∀ b o, h.get? b = some o → h'.get? b = some o
  new : h.objs.size ≤ e
  obj : ∃ oe vs, h'.get? e = some oe ∧ oe.cls = .ref C ∧ oe.dict = some d ∧ oe.data = .fields vs ∧ vs[1]? = some .none ∧ vs[2]? = some .none
  dbig : h.objs.size ≤ d
  dne : d ≠ e
  ns : h'.Ns1 d (fun y => if y = "value" then some v else none)
/-- what the written part says of the class -/
structure InvC (P : Program) (w : World) (K : PySem.W.Frag) (mg : Str → Option Value) (base : Heap) (C : Addr) : Prop where
  gC : mg "InvalidNumber" = some (.ref C)
  kC : PySem.W.keepIn K (.ref C) = true
  exC : PySem.W.subIn K (.ref C) (.type "BaseException") = some true
  tyC : PySem.W.typeIn K (.ref C) = some (.type "type")
  ga : PySem.W.findIn K (.ref C) "__getattribute__" = some (some (.builtin "BaseException.__getattribute__"))
  gg : PySem.W.findIn K (.ref C) "__getattr__" = some none
  noN : PySem.W.findIn K (.ref C) "value" = some none
  hdC : PySem.W.hasDictIn K C = true
  te : PySem.W.exmOne K (.ref C) (.ref C) = some true
  made : ∀ (A : Around) (outer : List Env) (R : Result → Shared → Prop) (s : Shared) (H : Hp) (v : Value), Room 1 A → Env0 P w K mg base A outer s H →
    (∀ h' tk e d, OwnMade s.heap h' e C d v → R (.ok (.ret (.ref e))) { s with heap := h', toks := tk }) → codeAny (model P w) A (.call (.ref C) ⟨[v], []⟩) R s
theorem relO_val {v : V} {v' : Value} (r : RelV v v') (f : Str) : RelO (List.lookup f [(("value" : Str), v)]) (if f = "value" then some v' else none) := by
  by_cases hw : f = "value"
  · subst hw
    rw [if_pos rfl]
    have q : List.lookup ("value" : Str) [(("value" : Str), v)] = some v := by simp [List.lookup]
    rw [q]
    exact r
  · rw [if_neg hw]
    have qw : (f == ("value" : Str)) = false := by simpa using hw
    have q2 : List.lookup f [(("value" : Str), v)] = none := by simp [List.lookup, qw]
    rw [q2]
    trivial
section
variable {X : Cx} {C : Addr}
def tMkInv (C : Addr) (ta : TA) : L2.St → Hp → XK → Prop := fun σ H Q => ta σ H fun vs H1 => ∃ v, vs = [v] ∧ ∀ d, H1 d = none → Q (.ref C) (some d) (upd H1 d (.xd [(("value" : Str), v)]))
theorem pmk_inv {a : Expr} {ta : TA} {p pos : Pos} {k : Nat} (T : InvC X.prog X.w X.K X.mg X.base C) (hr : Room (k + 1) X.A) (ha : PA X [a] ta) (hg : Gl X "InvalidNumber" := by rfl)
    (he : starEach (a :: []) X.env = (false, eval a X.env) :: starEach [] X.env := by rfl) (hpl : (backTo pos (starEach [] X.env)).any (·.1) = false := by rfl) :
    L2N.PMk X (.Call (.Name "InvalidNumber" p) [a] [] pos) (tMkInv C ta) := by
  intro pins s σ H Q I h
  refine wpAny_Call_Name_kw (ld_glob I hg T.gC ?_)
  refine PySem.W.callWith_K (h₀ := X.base) I.ok.mod.kin T.kC (thn (ha.run pos pins s σ H _ I h) fun us s1 hh => ?_) he hpl
  obtain ⟨vs, H1, I1, r1, v, ev, q1⟩ := hh
  subst ev
  refine ⟨I1.kIn, ?_⟩
  obtain ⟨v', rfl, rv⟩ := vals1 r1
  show wpAny _ _ (call (.ref C) [v']) _ _ _
  refine wpAny_call (T.made X.A X.stack _ s1 H1 v' (hr.mono (by omega)) I1.env0 fun h' tk' e d M => ?_)
  obtain ⟨hp, g, dr, tk, os⟩ := s1
  show L2N.MkP X pins σ Q (.ref e) ⟨h', g, dr, tk', os⟩
  obtain ⟨oe, fv, hoe, hc, hd, hdat, h1, h2⟩ := M.obj
  have hns := M.ns
  obtain ⟨G', g1, g2⟩ := restrict h' fun b => decide (b ≠ e)
  have gk : ∀ b, b ≠ e → G'.get? b = h'.get? b := fun b hb => g1 b (decide_eq_true hb)
  have ge : G'.get? e = none := g2 e (by simp)
  have old : ∀ b o, hp.get? b = some o → G'.get? b = some o := fun b o q => (gk b (Nat.ne_of_lt (Nat.lt_of_lt_of_le (Heap.lt_size q) M.new))).trans (M.keep b o q)
  have ob : ObjOk X.prog X.w (upd H1 d (.xd [(("value" : Str), v)])) G' d (.xd [(("value" : Str), v)]) :=
    ⟨_, hns.at (fun o q => (gk d M.dne).trans q), fun f => relO_val rv f⟩
  have J : L2.Inv X pins σ (upd H1 d (.xd [(("value" : Str), v)])) ⟨G', g, dr, tk', os⟩ := I1.laid (t' := tk') old M.dbig ob
  refine ⟨e, oe, fv, ⟨G', g, dr, tk', os⟩, _, .ref C, some d, rfl, J, fun b o q => ?_, ge, hoe, ⟨hc, hd, fun vs' e' => by rw [hdat] at e'; cases e'; exact h2⟩, hdat, h1, ?_, rfl, I1.bare, raises_own T.exC T.tyC, q1 d (I1.hok.fresh M.dbig)⟩
  · by_cases hb : b = e
    · have q' : G'.get? b = some o := q
      rw [hb, ge] at q'; cases q'
    · exact (gk b hb).symm.trans q
  · rw [upd_ne (Ne.symm M.dne)]
    exact I1.hok.fresh M.new
def tRaiseInv (C : Addr) (W : WX) (ta : TA) : TS := fun _ σ H => tMkInv C ta σ H fun cls d H' => W cls d σ H'
theorem ps_raiseInv {a : Expr} {ta : TA} {W : WX} {p pos pos2 : Pos} {k : Nat} (hc : X.calm = true) (T : InvC X.prog X.w X.K X.mg X.base C) (hr : Room (k + 1) X.A) (tk : L2N.Takes X W) (ha : PA X [a] ta) (hg : Gl X "InvalidNumber" := by rfl)
    (he : starEach (a :: []) X.env = (false, eval a X.env) :: starEach [] X.env := by rfl) (hpl : (backTo pos (starEach [] X.env)).any (·.1) = false := by rfl) :
    PS X (.Raise (some (.Call (.Name "InvalidNumber" p) [a] [] pos)) none pos2) (tRaiseInv C W ta)   := L2N.ps_raise hc tk (pmk_inv T hr ha hg he hpl)
/-- raised.value, raised the error that the suite holds -/
def tValInv (C : Addr) (a : Addr) (cls : Value) (d : Option Addr) (te : TE) : TE := fun σ H Q => te σ H fun x H1 => x = .ref a ∧ cls = .ref C ∧ ∃ (dd : Addr) (v : V), d = some dd ∧ H1 dd = some (.xd [(("value" : Str), v)]) ∧ Q v H1
theorem pe_valInv {a : Addr} {oe : Obj} {cls : Value} {d : Option Addr} {pn : List (Addr × Obj)} {e : Expr} {te : TE} {pos : Pos} (T : InvC X.prog X.w X.K X.mg X.base C) (hz : Zc cls d oe) (hf : ∃ vs, oe.data = .fields vs) (he : PE (X.suite a ((a, oe) :: pn)) e te)
    (hb : attributeBase e "value" X.env (eval e X.env) = eval e X.env := by rfl) :
    PE (X.suite a ((a, oe) :: pn)) (.Attribute e "value" pos) (tValInv C a cls d te) := by
  refine ⟨fun pins s σ H Q I h => ?_⟩
  refine attr_of hb (thn (he.run pins s σ H _ I h) fun u s1 hh => ?_)
  obtain ⟨x, H1, I1, rx, ex, ec, dd, v, ed, ea, q⟩ := hh
  subst ex
  obtain rfl : u = Value.ref a := rx
  subst ec
  subst ed
  obtain ⟨ha, _⟩ := I1.pin (a, oe) (List.mem_append_left _ List.mem_cons_self)
  obtain ⟨vs, hd⟩ := hf
  have hx : ObjOk X.prog X.w H1 s1.heap dd (.xd [(("value" : Str), v)]) := I1.hok dd _ ea
  obtain ⟨mA, hns, hr⟩ := hx
  obtain ⟨od, ho, hl⟩ := lookIn_ns hns
  have l : List.lookup ("value" : Str) [(("value" : Str), v)] = some v := by simp [List.lookup]
  obtain ⟨u, hu, ru⟩ := RelO.some_of (v := v) (o := mA "value") (by rw [← l]; exact hr "value")
  have J : PySem.W.InstAt s1.heap a oe C (some od) := ⟨ha, hz.1, by unfold PySem.W.notCls; rw [hd] <;> rfl, by rw [hz.2]; exact ho⟩
  exact HandSPX.exc_get I1.kIn J T.ga T.gg T.exC (PySem.W.findObj_own T.hdC T.noN rfl (by rw [hl, hu])) (handed_of ru) ⟨v, H1, I1.tok _, ru, q⟩
end
theorem passN {X : Cx} : Passes (L2N.CX X.prog X.w) X E0 := fun _ _ _ _ _ _ _ h => by
  obtain ⟨_, _, _, _, _, _, _, _, _, _, _, _, z⟩ := h
  exact z.elim
theorem takesN0 {X : Cx} : L2N.Takes X (fun _ _ _ _ => False) := fun _ _ x => by
  obtain ⟨_, _, _, _, _, _, _, _, _, _, _, _, _, _, _, _, z⟩ := x
  exact z.elim
theorem okN {P : Program} {w : World} {K : PySem.W.Frag} {mg : Str → Option Value} {base : Heap} {x qual : Str} {st : Stmt} {f : Addr} {fd : FuncData} {N ps : List Str} {k : Nat} {sp : Sp} (F : Fun K x qual st f fd) (S : FnScope N ps (defScope st)) (len : ∀ vs H Q E, sp vs H Q E → vs.length = ps.length)
    (hbody : ∀ (cdv : Value) (A : Around) (outer : List Env) (s : Shared) (H : Hp) (vs : List V) (Q : VK) (E : XK), Room k (A.deeper (envOfC qual (defScope st) s.heap.objs.size f cdv)) → sp vs H Q E →
      ∃ t, PSs (cxOf (L2N.CX P w) P w K mg base N qual (defScope st) f cdv A outer s H E) (defBody st) t ∧ t { nx := fun _ H' => Q .non H', rt := Q } (start N vs) H) : FnOk P w K mg base (L2N.CX P w) (k + 1) f fd ps sp := by
  obtain ⟨oc, od, kV, doc, pm, an, cdv, ct, osl, rfl, lk, hcd⟩ := F.ex
  exact fn_of lk hcd S len fun A outer s H vs Q E hr hsp => hbody cdv A outer s H vs Q E hr hsp
theorem hotSuite {X : Cx} {a : Addr} {oe : Obj} {cls : Value} {d : Option Addr} {pn : List (Addr × Obj)} (hz : L2N.Zn cls d oe) (hf : ∃ vs, oe.data = .fields vs) : L2H.HotC (X.suite a ((a, oe) :: pn)) := by
  obtain ⟨vs, hv⟩ := hf
  exact ⟨(a, oe), ⟨rfl, vs, hv, hz.2.2 vs hv⟩, List.mem_cons_self⟩
end K4
end
section
namespace K4
open PySem L2
/-- the text, the def with a default, the error's class -/
structure Txe (P : Program) (w : World) (K : PySem.W.Frag) (mg : Str → Option Value) (base : Heap) (a : Ad) : Prop where
  t : Txt K mg a
  d : FunD K "count_images" "count_images" (defArgs (topS 20)) (defBody (topS 20)) (defScope (topS 20)) [] [("torn", .non)] (a.f 20) (a.fd 20)
  c : InvC P w K mg base a.cE
theorem divP {i j : Nat} (hj : 0 < j) (hi : i < 2 ^ 1600) : CDivP ((i : Nat) : Int) ((j : Nat) : Int) := by
  refine divp_ok (by omega) ?_
  have b : Builtin.Int.intBits ((i : Nat) : Int) ≤ (((i : Nat) : Int).natAbs.log2 : Int) + 1 := by
    unfold Builtin.Int.intBits
    split
    · omega
    · omega
  have l : ((i : Nat) : Int).natAbs.log2 < 1600 := PySem.Flt.log2_lt_of (by omega) (by simpa using hi)
  have z : 0 ≤ Builtin.Int.intBits ((j : Nat) : Int) := by
    unfold Builtin.Int.intBits
    split <;> omega
  omega
theorem cdiv (r t : Nat) : ((r : Nat) : Int) / ((t : Nat) : Int) = ((r / t : Nat) : Int) := rfl
theorem cmod (r t : Nat) : ((r : Nat) : Int) % ((t : Nat) : Int) = ((r % t : Nat) : Int) := rfl
theorem paint_step {recs p M : List Nat} {j x y : Nat} (hx : recs[j]? = some x) (hy : p[j]? = some y) :
    ((recs.zip p).take (j + 1)).foldl (paintF recs) M = (((recs.zip p).take j).foldl (paintF recs) M).set x (recs.getD y 0) := by
  have : (recs.zip p)[j]? = some (x, y) := by
    rw [List.getElem?_zip_eq_some]
    exact ⟨hx, hy⟩
  rw [take_succ' this, List.foldl_append]
  rfl
/-- a turn of the number's road back -/
structure Turn1 (x : Nat) (xs : List Nat) (b m r : Nat) : Prop where
  sets : r / K4.T (xs.length + 1 - m) / F m < ch xs.length (m - 1)
  place : r / K4.T (xs.length + 1 - m) % F m < F m
  rest : r % K4.T (xs.length + 1 - m) < K4.T (xs.length + 1 - m)
  len : (subL xs (m - 1) (r / K4.T (xs.length + 1 - m) / F m)).length = m - 1
  sub : (subL xs (m - 1) (r / K4.T (xs.length + 1 - m) / F m)).Sublist xs
  dec : ∀ f, dec (f + 1) (x :: xs) b = (x :: subL xs (m - 1) (r / K4.T (xs.length + 1 - m) / F m), r / K4.T (xs.length + 1 - m) % F m) :: dec f (out xs (subL xs (m - 1) (r / K4.T (xs.length + 1 - m) / F m))) (r % K4.T (xs.length + 1 - m))
theorem turn1 {x : Nat} {xs : List Nat} {b m r : Nat} (hb : b < K4.T (xs.length + 1)) (hp : pick (xs.length + 1) b = (m, r)) : Turn1 x xs b m r := by
  have fo := first_ok hb
  rw [hp] at fo
  obtain ⟨l1, l2⟩ := subL_ok xs (m - 1) _ fo.set
  refine ⟨fo.set, fo.pat, fo.rest, l1, l2, fun f => ?_⟩
  simp only [dec, hp]
section
variable {P : Program} {w : World} {K : PySem.W.Frag} {mg : Str → Option Value} {base : Heap} {a : Ad}
abbrev s_count_images : Stmt := topS 20
abbrev N_count_images : List Str := ["size", "torn"]
theorem sc_count_images : FnScope N_count_images ["size", "torn"] (defScope s_count_images) := ⟨rfl, rfl, rfl, by decide +kernel, rfl, by decide +kernel, by decide +kernel⟩
def spCount : Sp := fun vs H Q _ => ∃ n : Nat, vs = [vN n, .non] ∧ n ≤ 64 ∧ ∀ H', Same H H' → Q (vN (T n)) H'
theorem B_count_images (S : Txe P w K mg base a) : ∃ ds, Vals [V.non] ds ∧ Binds K (a.fd 20) ["size", "torn"] ds :=
  S.d.binds0 1 (by simp) rfl fun D doc pm an cdv ct us ks hu hk => match us, hu, ks, hk with | [_], _, [_], _ => ⟨_, _, _, _, _, _, rfl, rfl, rfl⟩
theorem G_count_images (S : Txe P w K mg base a) : FnOk P w K mg base CX0 4 (a.f 20) (a.fd 20) ["size", "torn"] spCount := by
  have T := S.t
  refine S.d.ok sc_count_images (fun vs H Q E h => ?_) (fun cdv A outer s H vs Q E hr h => ?_)
  · obtain ⟨_, rfl, _⟩ := h
    rfl
  · obtain ⟨n, rfl, hn, q⟩ := h
    refine ⟨_, PSs.nox (pss_cons (ps_if (pt_cmpR op_lt (pv 0) pe_int (nomark _))
        (pss_one (ps_ret pe_int))
        pss_nil)
      (pss_cons (ps_if (pt_cmpR op_isN (pv 1) pe_non (nomark _))
        (pss_one (ps_ret (pe_ix ix_list (pe_call (G_totals T) (hr.mono (by decide)) rfl T.m_totals T.f_totals.kp (B_totals T) .nil pass0 (pa_cons (pv 0) pa_nil)) (pv 0) (fun _ _ => rfl))))
        pss_nil)
      (pss_cons (ps_never)
      (pss_one (ps_never))))), ?_⟩
    refine ⟨_, rfl, _, _, rfl, rfl, _, rfl, ite2 (fun c => ?_) (fun c => ?_)⟩
    · have c : ((n : Nat) : Int) < 0 := of_decide_eq_true c
      omega
    · refine ⟨_, rfl, rfl, _, rfl, ite2 (fun c => ?_) (fun c => absurd rfl c)⟩
      refine ⟨_, rfl, n, rfl, hn, fun H1 p hp s1 e1 => ⟨_, rfl, p, _, _, _, rfl, rfl, SqL.of e1, tot_at (Nat.le_refl _), q H1 s1⟩⟩
abbrev s_image_at : Stmt := topS 29
abbrev N_image_at : List Str := ["size", "number", "counts", "patterns", "image", "left", "behind", "n", "many", "earlier", "sets", "place", "records", "record", "shown", "at"]
theorem sc_image_at : FnScope N_image_at ["size", "number"] (defScope s_image_at) := ⟨rfl, rfl, rfl, by decide +kernel, rfl, by decide +kernel, by decide +kernel⟩
def spImageAt (C : Addr) : Sp := fun vs H Q E => ∃ (n : Nat) (z : Int), vs = [vN n, .int z] ∧ n ≤ 64 ∧
  ((z < 0 ∨ ((T n : Nat) : Int) ≤ z) → ∀ H' d, Same H H' → H' d = some (.xd [(("value" : Str), .int z)]) → E (.ref C) (some d) H') ∧
  (∀ b : Nat, z = (b : Int) → b < T n → ∀ H' p, H p = none → Same H H' → H' p = some (.lst (vL (imAt n b))) → Q (.ref p) H')
theorem B_image_at (T : Txt K mg a) : Binds K (a.fd 29) ["size", "number"] [] := T.f_image_at.binds fun _ _ _ _ _ _ us hl => match us, hl with | [_, _], _ => rfl
theorem G_image_at (S : Txe P w K mg base a) : FnOk P w K mg base (L2N.CX P w) 5 (a.f 29) (a.fd 29) ["size", "number"] (spImageAt a.cE) := by
  have T := S.t
  obtain ⟨ds, rds, bds⟩ := B_count_images S
  refine okN T.f_image_at sc_image_at (fun vs H Q E h => ?_) (fun cdv A outer s H vs Q E hr h => ?_)
  · obtain ⟨_, _, rfl, _⟩ := h
    rfl
  · obtain ⟨n, z, rfl, hn, qE, qQ⟩ := h
    refine ⟨_, (pss_cons (ps_if (PW.pt (pw_or (pt_cmpR op_lt (pv 1) pe_int (nomark _)) (pw_or1 (pt_cmpR op_ge (pv 1) (pe_call (G_count_images S) (hr.mono (by decide)) rfl T.m_count_images S.d.kp bds rds pass0 (pa_cons (pv 0) pa_nil)) (nomark _)))))
        (pss_one (ps_raiseInv rfl S.c hr (L2N.takes_of rfl rfl rfl rfl) (by exact (pa_cons (pv 1) pa_nil))))
        pss_nil)
      (pss_cons (ps_set (i := 2) sc_image_at.nd rfl (Or.inl rfl) (pe_call (G_totals T) (hr.mono (by decide)) rfl T.m_totals T.f_totals.kp (B_totals T) .nil pass0 (pa_cons (pv 0) pa_nil)))
      (pss_cons (ps_setLc (i := 3) (own := [("many", 8)]) (g := gName 8) rfl sc_image_at.nd rfl rfl (sw_true rfl rfl rfl (by decide +kernel)) (pi_range1 (by rfl) T.n_range (pa_cons (pe_op op_add (pe_glob (v := V.int 4) rfl T.mLARGEST ⟨_, rfl⟩) pe_int) pa_nil)) (blkOk_by (own := [("many", 8)]) (N := N_image_at) (sc := defScope s_image_at) (by decide +kernel)) (fun _ _ _ _ _ => pg_name (i := 8) sc_image_at.nd rfl (Or.inl rfl)) (fun _ _ _ _ _ => pts_nil) (fun _ _ _ _ _ => (pe_call (G_patterns T) (hr.mono (by decide)) rfl T.m_patterns T.f_patterns.kp (B_patterns T) .nil pass0 (pa_cons (pv 8) pa_nil))))
      (pss_cons (ps_set (i := 4) sc_image_at.nd rfl (Or.inl rfl) (pe_op op_rep (pe_lst (pa_cons pe_int pa_nil)) (pv 0)))
      (pss_cons (ps_set (i := 5) sc_image_at.nd rfl (Or.inr rfl) (pe_listRg rfl rfl T.n_list (prg_1 rfl T.n_range (pv 0))))
      (pss_cons (ps_set (i := 6) sc_image_at.nd rfl (Or.inl rfl) (pv 1))
      (pss_cons (ps_while PassesOwn.leaving (pt_truth (pv 5) (by intro _; rfl))
        (pss_cons (ps_set (i := 7) sc_image_at.nd rfl (Or.inl rfl) (pe_callB call_len_seq (by rfl) T.n_len (by decide +kernel) (pa_cons (pv 5) pa_nil)))
        (pss_cons (ps_set (i := 8) sc_image_at.nd rfl (Or.inl rfl) pe_int)
        (pss_cons (ps_while PassesOwn.leaving (pt_cmpR op_ge (pv 6) (pe_call (G_block T) (hr.mono (by decide)) rfl T.m_block T.f_block.kp (B_block T) .nil pass0 (pa_cons (pv 2) (pa_cons (pv 7) (pa_cons (pv 8) pa_nil)))) (nomark _))
          (pss_cons (ps_set (i := 6) sc_image_at.nd rfl (Or.inl rfl) (pe_op op_sub (pv 6) (pe_call (G_block T) (hr.mono (by decide)) rfl T.m_block T.f_block.kp (B_block T) .nil pass0 (pa_cons (pv 2) (pa_cons (pv 7) (pa_cons (pv 8) pa_nil))))))
          (pss_one (ps_set (i := 8) sc_image_at.nd rfl (Or.inl rfl) (pe_op op_add (pv 8) pe_int)))))
        (pss_cons (ps_asg (pe_callB call_divmodW (by rfl) T.n_divmod (by decide +kernel) (pa_cons (pv 6) (pa_cons (pe_ix ix_list (pv 2) (pe_op op_sub (pv 7) (pv 8)) (fun _ _ => rfl)) pa_nil))) (pg_tup rfl (pgs_cons (pg_name (i := 9) sc_image_at.nd rfl (Or.inl rfl)) (pgs_cons (pg_name (i := 6) sc_image_at.nd rfl (Or.inl rfl)) pgs_nil))))
        (pss_cons (ps_asg (pe_callB call_divmodW (by rfl) T.n_divmod (by decide +kernel) (pa_cons (pv 9) (pa_cons (pe_ix ix_tup (pe_glob (v := V.ref a.aF) rfl T.mFORM rfl) (pv 8) (fun _ _ => rfl)) pa_nil))) (pg_tup rfl (pgs_cons (pg_name (i := 10) sc_image_at.nd rfl (Or.inl rfl)) (pgs_cons (pg_name (i := 11) sc_image_at.nd rfl (Or.inl rfl)) pgs_nil))))
        (pss_cons (ps_set (i := 12) sc_image_at.nd rfl (Or.inr rfl) (pe_lc (own := [("at", 15)]) (g := gName 15) rfl sc_image_at.nd (pi_list (pe_call (G_set_at T) (hr.mono (by decide)) rfl T.m_set_at T.f_set_at.kp (B_set_at T) .nil pass0 (pa_cons (pv 10) (pa_cons (pv 7) (pa_cons (pv 8) pa_nil))))) (blkOk_by (own := [("at", 15)]) (N := N_image_at) (sc := defScope s_image_at) (by decide +kernel)) (fun _ _ _ _ _ => pg_name (i := 15) sc_image_at.nd rfl (Or.inl rfl)) (fun _ _ _ _ _ => pts_nil) (fun _ _ _ _ _ => (pe_ix (r := rIxL K) ix_list (pv 5) (pv 15) (fun _ _ => rfl)))))
        (pss_cons (ps_for PassesOwn.leaving rfl (K4Z.pi_zipM (by rfl) T.n_zip (pa_cons (pv 12) (pa_cons (pe_ix ix_list (pe_ix ix_list (pv 3) (pv 8) (fun _ _ => rfl)) (pv 11) (fun _ _ => rfl)) pa_nil))) (pg_tup rfl (pgs_cons (pg_name (i := 13) sc_image_at.nd rfl (Or.inl rfl)) (pgs_cons (pg_name (i := 14) sc_image_at.nd rfl (Or.inl rfl)) pgs_nil)))
          (pss_one (ps_asg (pe_ix ix_list (pv 12) (pv 14) (fun _ _ => rfl)) (pg_sub (pv 4) (pv 13) set_list))))
        (pss_one (ps_set (i := 5) sc_image_at.nd rfl (Or.inr rfl) (pe_lc (own := [("record", 13)]) (g := gName 13) rfl sc_image_at.nd (pi_list (pv 5)) (blkOk_by (own := [("record", 13)]) (N := N_image_at) (sc := defScope s_image_at) (by decide +kernel)) (fun _ _ _ _ _ => pg_name (i := 13) sc_image_at.nd rfl (Or.inl rfl)) (fun _ _ _ _ _ => (pts_one (pt_cmpR (r := rIn K true) op_notIn_seq (pv 13) (pv 12) (by rfl)))) (fun _ _ _ _ _ => (pv 13)))))))))))))
      (pss_one (ps_ret (pv 4)))))))))), ?_⟩
    have z01 : ∀ H1, Same H H1 → (z < 0 ∨ ((K4.T n : Nat) : Int) ≤ z) → ∀ d, H1 d = none → E (.ref a.cE) (some d) (upd H1 d (.xd [(("value" : Str), .int z)])) := fun H1 s1 hz d hd => qE hz _ d (s1.trans (same_new hd)) upd_same
    refine ⟨_, rfl, _, _, rfl, rfl, _, rfl, ite2 (fun c => iteT ⟨_, rfl, .int z, rfl, z01 H (Same.refl _) (.inl (of_decide_eq_true c))⟩) (fun c => ?_)⟩
    have c : ¬ z < 0 := fun h => c (decide_eq_true h)
    refine ⟨_, rfl, _, rfl, n, rfl, hn, fun H0 s0 => ⟨_, _, rfl, rfl, _, rfl, ite2 (fun c2 => ⟨_, rfl, .int z, rfl, z01 H0 s0 (.inr (of_decide_eq_true c2))⟩) (fun c2 => ?_)⟩⟩
    have c2 : ¬ ((K4.T n : Nat) : Int) ≤ z := fun h => c2 (decide_eq_true h)
    obtain ⟨b, rfl⟩ : ∃ b : Nat, z = (b : Int) := ⟨z.toNat, by omega⟩
    have hb : b < K4.T n := by omega
    have q := qQ b rfl hb
    clear qE qQ z01
    refine ⟨_, rfl, n, rfl, hn, fun H2 cp hcp s2 c2' => ?_⟩
    refine ⟨_, _, rfl, rfl, _, rfl, by decide, by decide, fun D hD => lc_pats (P := P) (w := w) (K := K) hD (fun _ => rfl) (fun m H' Q' hm s' z => ⟨_, rfl, m, rfl, hm, z⟩) fun H3 as s3 e3 hA => ?_⟩
    have s03 := s0.trans (s2.trans s3)
    have c3 := s3 _ _ c2'
    refine ⟨one_le _, fun zp hzp => ?_⟩
    have sZ := same_new (o := .lst [V.int 0]) hzp
    refine ⟨_, rfl, zp, _, _, rfl, rfl, upd_same, by omega, by omega, ?_, fun ip hip => ?_⟩
    · show 1 * ((n : Nat) : Int).toNat ≤ sizeLine
      rw [Nat.one_mul, Int.toNat_natCast]
      exact sz64 (by omega)
    rw [Int.toNat_natCast, rep_zero]
    have hip3 : H3 ip = none := sZ.free hip
    have s4 : Same H3 (upd (upd H3 zp (.lst [V.int 0])) ip (.lst (vL (List.replicate n 0)))) := sZ.trans (same_new hip)
    have e4 : (upd (upd H3 zp (.lst [V.int 0])) ip (.lst (vL (List.replicate n 0)))) ip = some (.lst (vL (List.replicate n 0))) := upd_same
    generalize upd (upd H3 zp (.lst [V.int 0])) ip (.lst (vL (List.replicate n 0))) = H4 at s4 e4 ⊢
    refine ⟨_, rfl, _, rfl, RgOk.nat (by omega), fun lp0 hlp0 => ?_⟩
    rw [rgV_nat]
    have s5 := same_new (o := .lst (vL (List.range n))) hlp0
    refine ⟨_, rfl, ?_⟩
    refine ⟨fun m σ H' => Same H3 H' ∧ ∃ (lp : Addr) (left M : List Nat) (bh f : Nat) (x7 x8 x9 x10 x11 x12 x13 x14 : Option V), m = left.length ∧ H' lp = some (.lst (vL left)) ∧ H' ip = some (.lst (vL M)) ∧ lp ≠ ip ∧ M.length = n ∧ left.Pairwise (· < ·) ∧ (∀ x ∈ left, x < n) ∧ left.length ≤ n ∧ bh < K4.T left.length ∧ left.length ≤ f ∧
      (dec f left bh).foldl paint M = imAt n b ∧ σ = [some (vN n), some (vN b), some (.ref cp), some (.ref D), some (.ref ip), some (.ref lp), some (vN bh), x7, x8, x9, x10, x11, x12, x13, x14, none],
      ⟨n, s4.trans s5, lp0, List.range n, List.replicate n 0, b, n, none, none, none, none, none, none, none, none, by rw [List.length_range], upd_same, s5 _ _ e4, (fun e => by rw [e, e4] at hlp0; cases hlp0), List.length_replicate, range_pw _, (fun x hx => List.mem_range.mp hx), by rw [List.length_range]; exact Nat.le_refl _, by rw [List.length_range]; exact hb, by rw [List.length_range]; exact Nat.le_refl _, rfl, rfl⟩, ?_⟩
    rintro m σ H5 ⟨s35, lp, left, M, bh, f, x7, x8, x9, x10, x11, x12, x13, x14, rfl, el, ei, nli, hM, hw, hlt, hll, hbh, hf, hpaint, rfl⟩
    refine ⟨_, rfl, _, .inl ⟨_, SqL.of el, rfl⟩, ite2 (fun ct => ?_) (fun ct => ?_)⟩
    rotate_left
    · have em : left = [] := by
        cases left with
        | nil => rfl
        | cons y ys => exact absurd rfl ct
      subst em
      have hd : dec f [] bh = [] := by cases f <;> rfl
      rw [hd] at hpaint
      have hpaint : M = imAt n b := hpaint
      subst hpaint
      exact ⟨_, rfl, q H5 ip (s03.free hip3) (s03.trans s35) ei⟩
    cases left with
    | nil => cases ct
    | cons x xs =>
    have nd : (x :: xs).Nodup := hw.imp fun h => Nat.ne_of_lt h
    obtain ⟨f', rfl⟩ : ∃ f', f = f' + 1 := ⟨f - 1, by simp at hf; omega⟩
    have hN0 : 0 < xs.length + 1 := Nat.succ_pos _
    have hbh : bh < K4.T (xs.length + 1) := hbh
    have hll : xs.length + 1 ≤ n := hll
    have vleft : (vL (x :: xs)).length = xs.length + 1 := by rw [vL, List.length_map]; rfl
    have c5 := s35 _ _ c3
    refine ⟨_, fun _ _ h => h, _, rfl, _, _, rfl, .inl (SqL.of el), ?_⟩
    rw [vleft]
    refine ⟨fun m σ H' => H' = H5 ∧ ∃ mm r, m = 5 - mm ∧ 1 ≤ mm ∧ mm ≤ 4 ∧ mm ≤ xs.length + 1 ∧ bh = pre (xs.length + 1) mm + r ∧ σ = [some (vN n), some (vN b), some (.ref cp), some (.ref D), some (.ref ip), some (.ref lp), some (vN r), some (vN (xs.length + 1)), some (vN mm), x9, x10, x11, x12, x13, x14, none], ⟨4, rfl, 1, bh, rfl, by omega, by omega, by omega, by rw [pre_1, Nat.zero_add], rfl⟩, ?_⟩
    rintro m2 σ H6 ⟨rfl, mm, r, rfl, k1, k4, kN, eb, rfl⟩
    have hblk : blkL (tot n) (xs.length + 1) mm = blk (xs.length + 1) mm := blkL_eq (by omega)
    refine ⟨_, rfl, _, rfl, _, rfl, _, rfl, cp, tot n, xs.length + 1, mm, rfl, SqL.of c5, k1, k4, kN, by omega, by rw [tot_len]; omega, ?_⟩
    rw [hblk]
    refine ⟨_, _, rfl, rfl, _, rfl, ite2 (fun cw => ?_) (fun cw => ?_)⟩
    · have cw : ((blk (xs.length + 1) mm : Nat) : Int) ≤ ((r : Nat) : Int) := of_decide_eq_true cw
      have cw : blk (xs.length + 1) mm ≤ r := by omega
      obtain ⟨g1, g2, g3⟩ := blk_more hN0 hbh k1 k4 kN eb cw
      refine ⟨_, fun _ _ h => h, _, rfl, _, rfl, _, rfl, _, rfl, cp, tot n, xs.length + 1, mm, rfl, SqL.of c5, k1, k4, kN, by omega, by rw [tot_len]; omega, ?_⟩
      rw [hblk]
      refine ⟨_, _, rfl, rfl, _, rfl, _, _, rfl, rfl, 5 - (mm + 1), by omega, rfl, mm + 1, r - blk (xs.length + 1) mm, rfl, by omega, g1, g2, g3, ?_⟩
      show [some (vN n), some (vN b), some (V.ref cp), some (V.ref D), some (V.ref ip), some (V.ref lp), some (V.int (((r : Nat) : Int) - ((blk (xs.length + 1) mm : Nat) : Int))), some (vN (xs.length + 1)), some (V.int (((mm : Nat) : Int) + 1)), x9, x10, x11, x12, x13, x14, none] = _
      rw [show ((r : Nat) : Int) - ((blk (xs.length + 1) mm : Nat) : Int) = ((r - blk (xs.length + 1) mm : Nat) : Int) by omega, show ((mm : Nat) : Int) + 1 = ((mm + 1 : Nat) : Int) by omega]
    have cw : ¬ ((blk (xs.length + 1) mm : Nat) : Int) ≤ ((r : Nat) : Int) := fun h => cw (decide_eq_true h)
    have hr1 : r < blk (xs.length + 1) mm := by omega
    have T1 := turn1 (x := x) hbh (blk_stop k1 k4 eb hr1)
    have hT0 := T_pos (xs.length + 1 - mm)
    have hrT : r < 2 ^ 1600 := Nat.lt_of_le_of_lt (show r ≤ bh by omega) (Nat.lt_trans hbh (T_lt (by omega)))
    have hF0 := F_pos k1 k4
    have t1s := T1.sets
    have t1p := T1.place
    have t1r := T1.rest
    have t1l := T1.len
    have t1b := T1.sub
    have t1d := T1.dec f'
    clear T1
    have hqT : r / K4.T (xs.length + 1 - mm) < 2 ^ 1600 := Nat.lt_of_le_of_lt (Nat.div_le_self _ _) hrT
    refine ⟨_, rfl, _, rfl, _, rfl, _, rfl, _, _, rfl, rfl, cp, _, _, _, rfl, rfl, SqL.of c5, (by rw [show (((xs.length + 1 : Nat) : Int) - ((mm : Nat) : Int)) = ((xs.length + 1 - mm : Nat) : Int) by omega]; exact tot_at (by omega)), _, _, rfl, divP hT0 hrT, fun dp hdp => ?_⟩
    rw [cdiv, cmod]
    generalize r / K4.T (xs.length + 1 - mm) = e at t1s t1p t1l t1b t1d hqT ⊢
    generalize r % K4.T (xs.length + 1 - mm) = b' at t1r t1d ⊢
    have s6 := same_new (o := .tup [vN e, vN b']) hdp
    refine ⟨dp, _, rfl, SqT.of upd_same, rfl, _, _, rfl, _, _, rfl, rfl, ?_⟩
    refine ⟨_, rfl, _, rfl, _, _, _, _, rfl, rfl, T.form _, F_at k1 k4, _, _, rfl, divP hF0 hqT, fun dq hdq => ?_⟩
    rw [cdiv, cmod]
    generalize e / F mm = st at t1s t1l t1b t1d ⊢
    generalize e % F mm = pl at t1p t1d ⊢
    have s7 := s6.trans (same_new (o := .tup [vN st, vN pl]) hdq)
    refine ⟨dq, _, rfl, SqT.of upd_same, rfl, _, _, rfl, _, _, rfl, rfl, ?_⟩
    -- records
    refine ⟨_, rfl, _, rfl, _, rfl, st, xs.length + 1, mm, rfl, k1, k4, kN, by omega, by simpa using t1s, fun H8 pp hpp s8 e8 => ?_⟩
    have e8 : H8 pp = some (.lst (vL (0 :: subL (List.range' 1 xs.length) (mm - 1) st))) := by simpa using e8
    have s78 := s7.trans s8
    have hra := recs_at x xs (mm - 1) st
    generalize hys : subL xs (mm - 1) st = ys at hra t1l t1b t1d
    have hpl8 : (0 :: subL (List.range' 1 xs.length) (mm - 1) st).length = mm := by
      have := congrArg List.length hra
      rw [List.length_map] at this
      rw [this, List.length_cons, t1l]
      omega
    have hplt : ∀ i ∈ 0 :: subL (List.range' 1 xs.length) (mm - 1) st, i < xs.length + 1 := fun i hi => by
      rcases List.mem_cons.mp hi with z | z
      · omega
      · have := (subL_ok (List.range' 1 xs.length) (mm - 1) st (by rw [List.length_range']; exact t1s)).2.subset z
        have := List.mem_range'_1.mp this
        omega
    refine ⟨pp, rfl, ⟨_, SqL.of e8⟩, fun D9 hD9 => lc_natL (K := K) (l := 0 :: subL (List.range' 1 xs.length) (mm - 1) st) (f := fun i => (x :: xs).getD i 0) (p := fun _ => true) hD9 (SqL.of e8) (by omega) (fun _ => rfl) (fun m hm H' Q' _ z => z) (fun m hm _ H' Q' s' z => ⟨_, rfl, _, rfl, lp, _, _, _, rfl, rfl, SqL.of (s' _ _ (s78 _ _ el)), vL_at (by have := hplt m hm; simpa using this), z⟩) fun H9 s9 e9 => ?_⟩
    rw [filter_true, hra] at e9
    have s59 := s78.trans s9
    have el9 := s59 _ _ el
    have ei9 := s59 _ _ ei
    have rsub : (x :: ys).Sublist (x :: xs) := List.cons_sublist_cons.mpr t1b
    have rlen : (x :: ys).length = mm := by rw [List.length_cons, t1l]; omega
    have rlt : ∀ v ∈ x :: ys, v < n := fun v hv => hlt v (rsub.subset hv)
    obtain ⟨bk, hbk⟩ : ∃ bk, as[mm]? = some bk := ⟨as[mm]'(by rw [hA.1]; omega), List.getElem?_eq_getElem _⟩
    obtain ⟨rsk, er, tk⟩ := hA.2 mm bk hbk
    have hpg := pat_get k1 k4 t1p
    have hrl : pl < rsk.length := by
      rw [tk.len]
      exact (List.getElem?_eq_some_iff.mp hpg).1
    have hrk : rsk[pl]? = some rsk[pl] := List.getElem?_eq_getElem hrl
    have htk := tk.at' pl _ _ hrk hpg
    have hpm := pats_mem k1 k4 (pat_mem k1 k4 t1p)
    have s39 := s35.trans s59
    refine ⟨_, rfl, _, rfl, _, rfl, D, _, _, V.ref bk, rfl, rfl, SqL.of (s39 _ _ e3), atI_nat (by rw [List.getElem?_map, hbk]; rfl), _, rfl, bk, _, _, V.ref rsk[pl], rfl, rfl, SqL.of (s39 _ _ er), atI_nat (by rw [List.getElem?_map, hrk]; rfl), D9, rsk[pl], vL (x :: ys), vL (pat mm pl), rfl, SqL.of e9, sameT s39 htk, ?_⟩
    have nD9 : D9 ≠ ip := fun e' => by
      have h1 := (s78 _ _ ei)
      rw [← e', hD9] at h1
      cases h1
    refine K4Z.for_zipM (K := K) (xs := vL (x :: ys)) (ys := vL (pat mm pl)) (by rw [vL, vL, List.length_map, List.length_map, rlen, hpm.1]) (fun j σ H' => Same H3 H' ∧ H' lp = some (.lst (vL (x :: xs))) ∧ H' D9 = some (.lst (vL (x :: ys))) ∧ ∃ M' x13 x14, H' ip = some (.lst (vL M')) ∧ M'.length = n ∧ M' = (((x :: ys).zip (pat mm pl)).take j).foldl (paintF (x :: ys)) M ∧
      σ = [some (vN n), some (vN b), some (.ref cp), some (.ref D), some (.ref ip), some (.ref lp), some (vN b'), some (vN (xs.length + 1)), some (vN mm), some (vN e), some (vN st), some (vN pl), some (.ref D9), x13, x14, none]) ⟨s39, el9, e9, M, x13, x14, ei9, hM, rfl, rfl⟩ (fun j σ H' z => ⟨SqL.of z.2.2.1, sameT z.1 htk⟩) ?_ ?_
    · rintro j xv yv Tz σ H10 hx hy ⟨s310, el10, e10, M', y13, y14, ei10, hM', hm', rfl⟩ hTz
      obtain ⟨u, hu, rfl⟩ := nat_at hx
      obtain ⟨v, hv, rfl⟩ := nat_at hy
      have hul := rlt u (List.mem_of_getElem? hu)
      have hvl := hpm.2 v (List.mem_of_getElem? hv)
      have sT := same_new (o := .tup [vN u, vN v]) hTz
      refine ⟨Tz, _, rfl, SqT.of upd_same, rfl, _, _, rfl, _, _, rfl, rfl, ?_⟩
      have ei11 := sT _ _ ei10
      refine ⟨_, rfl, _, rfl, D9, _, _, _, rfl, rfl, SqL.of (sT _ _ e10), vL_at (by omega), _, rfl, _, rfl, ip, _, _, u, rfl, rfl, ei11, ixN_nat (by rw [vL, List.length_map]; omega), ?_⟩
      refine ⟨same_mut (s310.trans sT) hip3, by rw [upd_ne nli]; exact sT _ _ el10, by rw [upd_ne nD9]; exact sT _ _ e10, M'.set u ((x :: ys).getD v 0), _, _, ?_, by rw [List.length_set, hM'], ?_, rfl⟩
      · rw [upd_same, vL, vL, List.map_set]
      · rw [paint_step hu hv, ← hm']
    · rintro σ H10 ⟨s310, el10, e10, M', y13, y14, ei10, hM', hm', rfl⟩
      rw [show (vL (x :: ys)).length = (x :: ys).length by rw [vL, List.length_map], List.take_of_length_le (by rw [List.length_zip, rlen, hpm.1]; omega)] at hm'
      have hm' : M' = paint M (x :: ys, pl) := by
        rw [hm']
        show _ = ((x :: ys).zip (pat (x :: ys).length pl)).foldl (paintF (x :: ys)) M
        rw [rlen]
      refine ⟨_, rfl, lp, rfl, ⟨_, SqL.of el10⟩, fun D11 hD11 => lc_natL (K := K) (l := x :: xs) (f := fun m => m) (p := fun m => !decide (m ∈ x :: ys)) hD11 (SqL.of el10) (by simp; omega) (fun _ => rfl) (fun m hm H' Q' s' z => ?_) (fun m hm _ H' Q' s' z => ⟨_, rfl, z⟩) fun H11 s11 e11 => ?_⟩
      · refine ⟨_, rfl, _, rfl, D9, _, rfl, .inl (SqL.of (s' _ _ e10)), rfl, flat_vL _, ?_⟩
        refine ⟨_, rfl, ?_⟩
        show Q' (!inV (vN m) (vL (x :: ys))) H'
        rw [inV_nat]
        exact z
      rw [filt_not] at e11
      have e11 : H11 D11 = some (.lst (vL (out (x :: xs) (x :: ys)))) := e11
      rw [out_cons nd] at e11
      have osub : (out xs ys).Sublist (x :: xs) := (out_sub xs ys).trans (List.sublist_cons_self x xs)
      have olen := out_len t1b (List.nodup_cons.mp nd).2
      have nD11 : D11 ≠ ip := fun e' => by rw [e', ei10] at hD11; cases hD11
      rw [t1d, List.foldl_cons, ← hm'] at hpaint
      refine ⟨(out xs ys).length, by rw [olen, List.length_cons]; omega, s310.trans s11, D11, out xs ys, M', b', f', _, _, _, _, _, _, _, _, rfl, e11, s11 _ _ ei10, nD11, hM', List.Pairwise.sublist osub hw, (fun y hy => hlt y (osub.subset hy)), by omega, ?_, ?_, hpaint, rfl⟩
      · rw [olen, t1l, show xs.length - (mm - 1) = xs.length + 1 - mm by omega]
        exact t1r
      · have hf : xs.length + 1 ≤ f' + 1 := hf
        omega
end
end K4
end
section
namespace K4
open PySem L2
/-- isinstance(raised, B), B a class of the program -/
def rIsD (K : PySem.W.Frag) (C a : Addr) (cls : Value) (d : Option Addr) : List V → Hp → VK → Prop := fun xs H Q => ∃ (B dd : Addr) (fs : List (Str × V)) (b : Bool), xs = [.ref a, .ref B] ∧ cls = .ref C ∧ d = some dd ∧ H dd = some (.xd fs) ∧ PySem.W.kitOne K (.ref C) (.ref B) = some b ∧ Q (.bl b) H
open PySem.Spec PyProof.Rows in
theorem call_isD {X : Cx} {a C : Addr} {oe : Obj} {cls : Value} {d : Option Addr} {pn : List (Addr × Obj)} (hcl : (PySem.W.clsIn X.K C).isSome = true) (E : ExcC X.K C) (hz : Zc cls d oe) (hf : ∃ vs, oe.data = .fields vs) : CallR (X.suite a ((a, oe) :: pn)) (.builtin "isinstance") (rIsD X.K C a cls d) := by
  intro pins s σ H xs us Q I r h
  obtain ⟨B, dd, fs, b, rfl, ec, ed, hx, e, q⟩ := h
  subst ec ed
  obtain ⟨u1, u2, rfl, r1, r2⟩ := vals2 r
  cases r1
  cases r2
  obtain ⟨hget, _⟩ := I.pin (a, oe) (List.mem_append.mpr (.inl List.mem_cons_self))
  obtain ⟨vs, hv⟩ := hf
  have hx : ObjOk X.prog X.w H s.heap dd (.xd fs) := I.hok dd _ hx
  obtain ⟨mA, hns, _⟩ := hx
  obtain ⟨od, ho, _⟩ := lookIn_ns hns
  have J : PySem.W.InstAt s.heap a oe C (some od) := ⟨hget, hz.1, by unfold PySem.W.notCls; rw [hv] <;> rfl, by rw [hz.2]; exact ho⟩
  exact PySem.W.kia_one (PySem.W.kitx_exc hcl E.hg E.hk E.hs E.ha E.hn E.ht E.hm) I.kIn J e (fun z => nomatch z) fun tk => ⟨.bl b, H, I.kept (t' := tk) fun _ _ z => z, rfl, q⟩
/-- what else is asked of the error's class -/
structure Txf (P : Program) (w : World) (K : PySem.W.Frag) (mg : Str → Option Value) (base : Heap) (a : Ad) : Prop extends Txe P w K mg base a where
  mM : mg "MendError" = some (.ref a.iE)
  isM : PySem.W.kitOne K (.ref a.cE) (.ref a.iE) = some true
  ex : ExcC K a.cE
  cl : (PySem.W.clsIn K a.cE).isSome = true
section
variable {P : Program} {w : World} {K : PySem.W.Frag} {mg : Str → Option Value} {base : Heap} {a : Ad}
abbrev s_law_numbered : Stmt := topS 43
abbrev N_law_numbered : List Str := ["_law_shown", "_law_due", "_law_handed"]
theorem sc_law_numbered : FnScope N_law_numbered ["_law_shown", "_law_due"] (defScope s_law_numbered) := ⟨rfl, rfl, rfl, by decide +kernel, rfl, by decide +kernel, by decide +kernel⟩
def spNumbered : Sp := fun vs H Q _ => ∃ (sa : Addr) (im : List Nat) (ps : List Pc) (due : Int), vs = [.ref sa, .int due] ∧ H sa = some (.lst (vL im)) ∧ im.length ≤ 64 ∧ Val (List.range im.length) ps ∧ IsImg im.length ps im ∧
  ∀ H', Same H H' → Q (.bl (decide (((enc (List.range im.length) ps : Nat) : Int) = due))) H'
theorem B_law_numbered (T : Txt K mg a) : Binds K (a.fd 43) ["_law_shown", "_law_due"] [] := T.f_law_numbered.binds fun _ _ _ _ _ _ us hl => match us, hl with | [_, _], _ => rfl
theorem G_law_numbered (T : Txt K mg a) : FnOk P w K mg base CX0 5 (a.f 43) (a.fd 43) ["_law_shown", "_law_due"] spNumbered := by
  refine T.f_law_numbered.ok sc_law_numbered (fun vs H Q E h => ?_) (fun cdv A outer s H vs Q E hr h => ?_)
  · obtain ⟨_, _, _, _, rfl, _⟩ := h
    rfl
  · obtain ⟨sa, im, ps, due, rfl, hS, hn, hv, hi, q⟩ := h
    refine ⟨_, (pss_cons (ps_set (i := 2) sc_law_numbered.nd rfl (Or.inl rfl) (pe_callTy call_list_of (by rfl) T.n_list (by decide +kernel) (pa_cons (pv 0) pa_nil)))
      (pss_one (ps_ret (pe_and (pe_call (G_law_is T) (hr.mono (by decide)) rfl T.m_law_is T.f_law_is.kp (B_law_is T) .nil pass0 (pa_cons (pe_call (G_image_number T) (hr.mono (by decide)) rfl T.m_image_number T.f_image_number.kp (B_image_number T) .nil pass0 (pa_cons (pv 2) pa_nil)) (pa_cons (pv 1) pa_nil))) (pe_one (pe_cmpR (op_eqD hr.units) (pv 2) (pv 0) (nomark _))))))), ?_⟩
    refine ⟨_, rfl, sa, _, rfl, .inl (SqL.of hS), fun hp hhp => ?_⟩
    have s1 := same_new (o := .lst (vL im)) hhp
    refine ⟨_, rfl, hp, im, ps, rfl, SqL.of upd_same, hn, hv, hi, fun H2 s2 => ?_⟩
    refine ⟨_, rfl, _, _, rfl, _, rfl, ite2 (fun c => ?_) (fun c => ?_)⟩
    · refine ⟨_, rfl, _, rfl, _, _, .lst (SqL.of (s2 _ _ upd_same)) (dp_nat _), .lst (SqL.of (s2 _ _ (s1 _ _ hS))) (dp_nat _), shaped_lI _, shaped_lI _, ?_⟩
      rw [eqv_lI, decide_eq_true rfl]
      have := q H2 (s1.trans s2)
      rw [c] at this
      exact this
    · have := q H2 (s1.trans s2)
      rw [Bool.eq_false_iff.mpr c] at this
      exact this
abbrev s_law_road_back : Stmt := topS 45
abbrev N_law_road_back : List Str := ["_law_shown", "_law_handed", "_law_place", "_law_told"]
theorem sc_law_road_back : FnScope N_law_road_back ["_law_shown"] (defScope s_law_road_back) := ⟨rfl, rfl, rfl, by decide +kernel, rfl, by decide +kernel, by decide +kernel⟩
def spRoad : Sp := fun vs H Q _ => ∃ (sa : Addr) (im : List Nat) (ps : List Pc), vs = [.ref sa] ∧ H sa = some (.lst (vL im)) ∧ im.length ≤ 64 ∧ Val (List.range im.length) ps ∧ IsImg im.length ps im ∧ ∀ H', Same H H' → Q (.bl true) H'
theorem B_law_road_back (T : Txt K mg a) : Binds K (a.fd 45) ["_law_shown"] [] := T.f_law_road_back.binds fun _ _ _ _ _ _ us hl => match us, hl with | [_], _ => rfl
theorem forms_of {n : Nat} {ps : List Pc} {im : List Nat} (hv : Val (List.range n) ps) (hi : IsImg n ps im) : ∀ g ∈ gps (labs im im.length), hasForm im g = true := by
  rw [groups_img hv hi]
  intro g hg
  obtain ⟨pc, hp, rfl⟩ := List.mem_map.mp hg
  exact hasForm_of (List.Sublist.nodup (val_ok hv pc hp).sub (range_nodup n)) (form_img hv hi hp)
theorem back_img {n : Nat} {ps : List Pc} {im : List Nat} (hv : Val (List.range n) ps) (hi : IsImg n ps im) : enc (List.range n) ps < K4.T n ∧ imAt n (enc (List.range n) ps) = im := by
  have h1 := enc_lt ps (List.range n) (range_nodup n) hv
  rw [List.length_range] at h1
  refine ⟨h1, ?_⟩
  have h2 := dec_enc ps n (List.range n) (by rw [List.length_range]; exact Nat.le_refl _) (range_nodup n) hv
  have h3 := imAt_ok h1
  unfold decR at h3
  rw [h2] at h3
  exact img_unique hv h3 hi
theorem G_law_road_back (S : Txf P w K mg base a) : FnOk P w K mg base CX0 6 (a.f 45) (a.fd 45) ["_law_shown"] spRoad := by
  have T := S.t
  have S := S.toTxe
  refine T.f_law_road_back.ok sc_law_road_back (fun vs H Q E h => ?_) (fun cdv A outer s H vs Q E hr h => ?_)
  · obtain ⟨_, _, _, rfl, _⟩ := h
    rfl
  · obtain ⟨sa, im, ps, rfl, hS, hn, hv, hi, q⟩ := h
    refine ⟨_, (pss_cons (ps_set (i := 1) sc_law_road_back.nd rfl (Or.inl rfl) (pe_callTy call_list_of (by rfl) T.n_list (by decide +kernel) (pa_cons (pv 0) pa_nil)))
      (pss_cons (ps_set (i := 2) sc_law_road_back.nd rfl (Or.inl rfl) (pe_call (G_image_number T) (hr.mono (by decide)) rfl T.m_image_number T.f_image_number.kp (B_image_number T) .nil pass0 (pa_cons (pv 1) pa_nil)))
      (pss_cons (ps_if (PW.pt (pw_or (pt_not (pt_val (pe_callB call_isi (by rfl) T.n_isinstance (by decide +kernel) (pa_cons (pv 2) (pa_cons (pe_bltn (v := V.ty "int") (by rfl) T.n_int (by decide +kernel) rfl) pa_nil))))) (pw_or (pt_val (pe_callB call_isi (by rfl) T.n_isinstance (by decide +kernel) (pa_cons (pv 2) (pa_cons (pe_bltn (v := V.ty "bool") (by rfl) T.n_bool (by decide +kernel) rfl) pa_nil)))) (pw_or1 (pt_cmpR (op_neD hr.units) (pv 1) (pv 0) (nomark _))))))
        (pss_one (ps_ret pe_bl))
        pss_nil)
      (pss_cons (ps_if (PW.pt (pw_or (pt_cmpR op_lt (pv 2) pe_int (nomark _)) (pw_or1 (pt_cmpR op_ge (pv 2) (pe_call (G_law_in_all T) (hr.mono (by decide)) rfl T.m_law_in_all T.f_law_in_all.kp (B_law_in_all T) .nil pass0 (pa_cons (pe_callB call_len_seq (by rfl) T.n_len (by decide +kernel) (pa_cons (pv 0) pa_nil)) pa_nil)) (nomark _)))))
        (pss_one (ps_ret pe_bl))
        pss_nil)
      (pss_cons (ps_set (i := 3) sc_law_road_back.nd rfl (Or.inl rfl) (pe_call (G_image_at S) (hr.mono (by decide)) rfl T.m_image_at T.f_image_at.kp (B_image_at T) .nil passN (pa_cons (pe_callB call_len_seq (by rfl) T.n_len (by decide +kernel) (pa_cons (pv 0) pa_nil)) (pa_cons (pv 2) pa_nil))))
      (pss_one (ps_ret (pe_and (pe_cmpR op_notN (pe_call (G_law_keys T) (hr.mono (by decide)) rfl T.m_law_keys T.f_law_keys.kp (B_law_keys T) .nil pass0 (pa_cons (pv 3) (pa_cons (pe_callB call_len_seq (by rfl) T.n_len (by decide +kernel) (pa_cons (pv 0) pa_nil)) pa_nil))) pe_non (nomark _)) (pe_one (pe_cmpR (op_eqD hr.units) (pv 3) (pv 0) (nomark _))))))))))), ?_⟩
    obtain ⟨henc, hback⟩ := back_img hv hi
    have vl : (vL im).length = im.length := by rw [vL, List.length_map]
    refine ⟨_, rfl, sa, _, rfl, .inl (SqL.of hS), fun hp hhp => ?_⟩
    have s1 := same_new (o := .lst (vL im)) hhp
    refine ⟨_, rfl, hp, im, ps, rfl, SqL.of upd_same, hn, hv, hi, fun H2 s2 => ?_⟩
    generalize enc (List.range im.length) ps = b at henc hback ⊢
    have s12 := s1.trans s2
    have e2 := s2 _ _ (upd_same (H := H) (a := hp) (o := .lst (vL im)))
    refine ⟨_, rfl, _, _, _, _, true, rfl, .ty _, .base (.int _), kit_ty (by decide +kernel), true, rfl, iteF ?_⟩
    refine ⟨_, rfl, _, _, _, _, false, rfl, .ty _, .base (.int _), kit_ty (by decide +kernel), false, rfl, iteF ?_⟩
    refine ⟨_, rfl, _, rfl, _, _, .lst (SqL.of e2) (dp_nat _), .lst (SqL.of (s12 _ _ hS)) (dp_nat _), shaped_lI _, shaped_lI _, _, rfl, ite2 (fun c => ?_) (fun c => ?_)⟩
    · rw [eqv_lI, decide_eq_true rfl] at c
      cases c
    refine ⟨_, rfl, _, _, rfl, rfl, _, rfl, ite2 (fun c => ?_) (fun c => ?_)⟩
    · have c : ((b : Nat) : Int) < 0 := of_decide_eq_true c
      omega
    refine ⟨_, rfl, _, rfl, _, _, rfl, .inl (SqL.of (s12 _ _ hS)), im.length, by rw [vl]; rfl, hn, fun H3 s3 => ?_⟩
    refine ⟨_, _, rfl, rfl, _, rfl, ite2 (fun c => ?_) (fun c => ?_)⟩
    · have c : ((K4.T im.length : Nat) : Int) ≤ ((b : Nat) : Int) := of_decide_eq_true c
      omega
    have s13 := s12.trans s3
    refine ⟨_, rfl, _, _, rfl, .inl (SqL.of (s13 _ _ hS)), _, rfl, im.length, _, by rw [vl]; rfl, hn, fun z => absurd z (by omega), fun b2 eb hb2 H4 p hp4 s4 e4 => ?_⟩
    obtain rfl : b = b2 := by omega
    rw [hback] at e4
    have s14 := s13.trans s4
    refine ⟨_, rfl, _, rfl, _, _, rfl, .inl (SqL.of (s14 _ _ hS)), p, im, by rw [vl]; rfl, e4, img_good hv hi, hn, forms_of hv hi, fun H5 kp rs hkp s5 ek hK => ?_⟩
    refine ⟨rfl, true, rfl, iteT ?_⟩
    refine ⟨_, rfl, _, rfl, _, _, .lst (SqL.of (s5 _ _ e4)) (dp_nat _), .lst (SqL.of ((s14.trans s5) _ _ hS)) (dp_nat _), shaped_lI _, shaped_lI _, ?_⟩
    rw [eqv_lI, decide_eq_true rfl]
    exact q H5 (s14.trans s5)
theorem H_law_is (T : Txt K mg a) : L2H.FnH P w K mg base CX0 1 (a.f 38) (a.fd 38) ["_law_told", "_law_due"] spIs := by
  obtain ⟨oc, od, kV, doc, pm, an, cdv, ct, osl, e, lk, hcd⟩ := T.f_law_is.ex
  rw [e] at lk ⊢
  refine L2H.fn_ofH lk hcd sc_law_is (fun vs H Q E h => ?_) fun A outer s H vs Q E p hot hr h => ?_
  · obtain ⟨_, _, rfl, _⟩ := h
    rfl
  · obtain ⟨x, y, rfl, q⟩ := h
    refine ⟨_, (pss_one (ps_ret (pe_and (pe_callB call_isi (by rfl) T.n_isinstance (by decide +kernel) (pa_cons (pv 0) (pa_cons (pe_bltn (v := V.ty "int") (by rfl) T.n_int (by decide +kernel) rfl) pa_nil))) (pe_and (pe_not (pe_callB call_isi (by rfl) T.n_isinstance (by decide +kernel) (pa_cons (pv 0) (pa_cons (pe_bltn (v := V.ty "bool") (by rfl) T.n_bool (by decide +kernel) rfl) pa_nil)))) (pe_one (pe_cmpR op_eq (pv 0) (pv 1) (nomark _))))))), ?_⟩
    refine ⟨_, rfl, _, _, _, _, true, rfl, .ty _, .base (.int _), kit_ty (by decide +kernel), true, rfl, iteT ?_⟩
    refine ⟨_, rfl, _, _, _, _, false, rfl, .ty _, .base (.int _), kit_ty (by decide +kernel), false, rfl, true, rfl, iteT ?_⟩
    refine ⟨_, rfl, _, rfl, rfl, ?_⟩
    have e : decide (V.int x = V.int y) = decide (x = y) := by rw [dec_int]; exact Bool.eq_iff_iff.mpr (by simp)
    rw [e]
    exact q
abbrev s_law_refused : Stmt := topS 44
abbrev N_law_refused : List Str := ["_law_size_here", "_law_value", "raised"]
theorem sc_law_refused : FnScope N_law_refused ["_law_size_here", "_law_value"] (defScope s_law_refused) := ⟨rfl, rfl, rfl, by decide +kernel, rfl, by decide +kernel, by decide +kernel⟩
def spRefused : Sp := fun vs H Q _ => ∃ (n : Nat) (z : Int), vs = [vN n, .int z] ∧ n ≤ 64 ∧ (z < 0 ∨ ((K4.T n : Nat) : Int) ≤ z) ∧ ∀ H', Same H H' → Q (.bl true) H'
theorem B_law_refused (T : Txt K mg a) : Binds K (a.fd 44) ["_law_size_here", "_law_value"] [] := T.f_law_refused.binds fun _ _ _ _ _ _ us hl => match us, hl with | [_, _], _ => rfl
theorem G_law_refused (S : Txf P w K mg base a) : FnOk P w K mg base CX0 6 (a.f 44) (a.fd 44) ["_law_size_here", "_law_value"] spRefused := by
  have T := S.t
  have mM := S.mM
  have ex := S.ex
  have cl := S.cl
  have isM := S.isM
  have S := S.toTxe
  refine T.f_law_refused.ok sc_law_refused (fun vs H Q E h => ?_) (fun cdv A outer s H vs Q E hr h => ?_)
  · obtain ⟨_, _, rfl, _⟩ := h
    rfl
  · obtain ⟨n, z, rfl, hn, hz, q⟩ := h
    have hr5 : Room 5 _ := hr.mono (by decide)
    have hrH : L2H.RoomH 1 _ := ⟨(hr.mono (show 1 ≤ 5 by decide)).dp, (hr.mono (show 1 ≤ 5 by decide)).un⟩
    refine ⟨_, (pss_cons (L2N.ps_try_as (i := 2) (Wout := fun _ _ _ _ => False) rfl rfl sc_law_refused.nd rfl rfl ⟨rfl, by decide, Or.inl S.c.gC⟩ takesN0 (fun W pn xe tk _ => pss_one (ps_expr (pe_callS (G_image_at S) hr5 rfl T.m_image_at T.f_image_at.kp (B_image_at T) (fun σ => L2N.passAt tk σ) (by exact (pa_cons (pv 0) (pa_cons (pv 1) pa_nil)))))) (fun a0 oe cls d pn hz hf => pss_one (ps_ret (pe_and (pe_callB (call_isD cl ex hz.zc hf) (by rfl) T.n_isinstance (by decide +kernel) (by exact (pa_cons (pv 2) (pa_cons (pe_glob (v := V.ref a.iE) rfl mM rfl) pa_nil)))) (pe_one (L2H.pe_callH (E := fun _ => E0) (H_law_is T) ⟨hrH.dp, hrH.un⟩ (hotSuite hz hf) rfl T.m_law_is T.f_law_is.kp (B_law_is T) (fun _ _ _ _ _ _ _ h => h.elim) (by exact (pa_cons (pe_valInv S.c hz.zc hf (pv 2)) (pa_cons (pv 1) pa_nil)))))))))
      (pss_one (ps_ret pe_bl))), ?_⟩
    refine ⟨_, rfl, _, rfl, n, z, rfl, hn, fun _ H1 d s1 e1 => ?_, fun b eb hb => absurd hz (by omega)⟩
    refine ⟨true, S.c.te, fun _ a0 _ => ?_, fun q => Bool.noConfusion q⟩
    refine ⟨_, rfl, a.iE, d, _, true, rfl, rfl, rfl, e1, isM, true, rfl, iteT ?_⟩
    refine ⟨_, rfl, rfl, rfl, d, .int z, rfl, e1, _, rfl, z, z, rfl, ?_⟩
    rw [decide_eq_true rfl]
    exact q H1 s1
end
end K4
end
section
namespace K4
open PySem L2 PySem.W
/-! ### rows of keys as data -/
abbrev dK (k : Ky) : PyData := .tuple [.int ((k.1 : Nat) : Int), .tuple (dI k.2.1), .tuple (dI k.2.2)]
abbrev rowL (xs ys : List PyData) : Bool := PyProof.Rows.lexLt PyProof.Rows.itemOrd (keyToksAll xs) (keyToksAll ys)
theorem row_nil : rowL [] [] = false := by rfl
theorem row_less (y : PyData) (ys : List PyData) : rowL [] (y :: ys) = true := by
  unfold rowL
  rw [keyToksAll, keyToksAll]
  rfl
theorem row_more (x : PyData) (xs : List PyData) : rowL (x :: xs) [] = false := by
  unfold rowL
  rw [keyToksAll, keyToksAll]
  rfl
theorem alike_dI : ∀ l m : List Nat, alikeAll (dI l) (dI m) = true
  | [], _ => by simp [alikeAll]
  | _ :: _, [] => by simp [alikeAll]
  | x :: l, y :: m => by
    show alikeAll (PyData.int _ :: dI l) (PyData.int _ :: dI m) = true
    rw [alikeAll, alike_dI l m]
    simp [alike]
theorem eqv_int (x y : Nat) : PyData.eqv (.int ((x : Nat) : Int)) (.int ((y : Nat) : Int)) = decide (x = y) := by
  rw [PyData.eqv, Bool.eq_iff_iff]
  simp
  omega
theorem row_dI : ∀ l m : List Nat, rowL (dI l) (dI m) = ltL l m
  | [], [] => row_nil
  | [], y :: m => row_less _ _
  | x :: l, [] => row_more _ _
  | x :: l, y :: m => by
    show rowL (PyData.int _ :: dI l) (PyData.int _ :: dI m) = ltL (x :: l) (y :: m)
    unfold rowL
    rw [dataLt_cons (by simp [alike]), eqv_int, dataLt_int]
    have ih := row_dI l m
    unfold rowL at ih
    rw [ih]
    by_cases c : x = y
    · subst c
      rw [if_pos (decide_eq_true rfl)]
      simp [ltL]
    · rw [if_neg (by rw [decide_eq_false c]; exact Bool.false_ne_true)]
      simp [ltL, c]
theorem alike_tI (l m : List Nat) : alike (.tuple (dI l)) (.tuple (dI m)) = true := by rw [alike]; exact alike_dI l m
theorem alike_dK (x y : Ky) : alike (dK x) (dK y) = true := by
  rw [alike, alikeAll, alikeAll, alikeAll, alikeAll, alike_tI, alike_tI]
  simp [alike]
theorem eqv_dK (x y : Ky) : PyData.eqv (dK x) (dK y) = decide (x = y) := by
  rw [PyData.eqv, PyData.eqvAll, PyData.eqvAll, PyData.eqvAll, PyData.eqvAll, eqv_int, eqv_tI, eqv_tI, Bool.and_true, ← Bool.decide_and, ← Bool.decide_and]
  obtain ⟨x1, x2, x3⟩ := x
  obtain ⟨y1, y2, y3⟩ := y
  exact decide_eq_decide.mpr (by simp)
theorem lt_tI (l m : List Nat) : dataLt (.tuple (dI l)) (.tuple (dI m)) = ltL l m := by rw [dataLt_tuple]; exact row_dI l m
theorem lt_dK (x y : Ky) : dataLt (dK x) (dK y) = ltK x y := by
  rw [dataLt_tuple, dataLt_cons (by simp [alike]), eqv_int, dataLt_int, dataLt_cons (alike_tI _ _), eqv_tI, lt_tI, dataLt_cons (alike_tI _ _), eqv_tI, lt_tI]
  have z : PyProof.Rows.lexLt PyProof.Rows.itemOrd (keyToksAll []) (keyToksAll []) = false := row_nil
  rw [z]
  obtain ⟨x1, x2, x3⟩ := x
  obtain ⟨y1, y2, y3⟩ := y
  unfold ltK
  by_cases c1 : x1 = y1
  · subst c1
    by_cases c2 : x2 = y2
    · subst c2
      by_cases c3 : x3 = y3
      · subst c3
        simp [ltL_irr]
      · simp [c3, ltL_irr]
    · simp [c2]
  · simp [c1]
theorem lt_keys : ∀ xs ys : List Ky, rowL (xs.map dK) (ys.map dK) = ltKs xs ys
  | [], [] => row_nil
  | [], y :: ys => row_less _ _
  | x :: xs, [] => row_more _ _
  | x :: xs, y :: ys => by
    have ih := lt_keys xs ys
    unfold rowL at ih ⊢
    rw [List.map_cons, List.map_cons, dataLt_cons (alike_dK x y), eqv_dK, lt_dK, ih]
    show _ = if x = y then ltKs xs ys else ltK x y
    by_cases c : x = y
    · rw [if_pos (decide_eq_true c), if_pos c]
    · rw [if_neg (by rw [decide_eq_false c]; exact Bool.false_ne_true), if_neg c]
theorem lt_keysD (xs ys : List Ky) : dataLt (.list (xs.map dK)) (.list (ys.map dK)) = ltKs xs ys := by rw [dataLt_list]; exact lt_keys xs ys
theorem eqv_keys : ∀ xs ys : List Ky, PyData.eqvAll (xs.map dK) (ys.map dK) = decide (xs = ys)
  | [], [] => by simp [PyData.eqvAll]
  | [], _ :: _ => by simp [PyData.eqvAll]
  | _ :: _, [] => by simp [PyData.eqvAll]
  | x :: xs, y :: ys => by
    rw [List.map_cons, List.map_cons, PyData.eqvAll, eqv_dK, eqv_keys xs ys, ← Bool.decide_and]
    exact decide_eq_decide.mpr (by rw [List.cons.injEq])
theorem eqv_keysD (xs ys : List Ky) : PyData.eqv (.list (xs.map dK)) (.list (ys.map dK)) = decide (xs = ys) := by rw [PyData.eqv]; exact eqv_keys xs ys
theorem alike_keys : ∀ xs ys : List Ky, alikeAll (xs.map dK) (ys.map dK) = true
  | [], _ => by simp [alikeAll]
  | _ :: _, [] => by simp [alikeAll]
  | x :: xs, y :: ys => by
    rw [List.map_cons, List.map_cons, alikeAll, alike_dK, alike_keys xs ys]
    rfl
theorem can_keys : ∀ xs : List Ky, PyData.canLayAll0 (xs.map dK) = true
  | [] => by simp [PyData.canLayAll0]
  | x :: xs => by
    rw [List.map_cons, PyData.canLayAll0, can_keys xs, PyData.canLay0, PyData.canLayAll0, PyData.canLayAll0, PyData.canLayAll0, PyData.canLayAll0, PyData.canLay0, PyData.canLay0, PyData.canLay0, can_dI, can_dI]
    rfl
theorem depth_keys : ∀ xs : List Ky, PyData.depthAll (xs.map dK) ≤ 2
  | [] => by simp [PyData.depthAll]
  | x :: xs => by
    have := depth_keys xs
    rw [List.map_cons, PyData.depthAll, PyData.depth, PyData.depthAll, PyData.depthAll, PyData.depthAll, PyData.depthAll, PyData.depth, PyData.depth, PyData.depth, depth_dI, depth_dI]
    omega
theorem shaped_keys (xs : List Ky) : SeqAt.shaped (.list (xs.map dK)) = true := by
  unfold SeqAt.shaped
  have := depth_keys xs
  rw [PyData.canLay0, PyData.depth, can_keys, decide_eq_true (by omega)]
  rfl
theorem dp_keys {K : PySem.W.Frag} {H : Hp} : ∀ {rs : List Addr} {ks : List Ky}, Kys H rs ks → DpAll K H (rs.map V.ref) (ks.map dK)
  | _, _, .nil => .nil
  | _, _, .cons h t => by
    obtain ⟨t1, t2, e, e1, e2⟩ := h.ex
    exact .cons (.tup (SqT.of e) (.cons (.int _) (.cons (.tup (SqT.of e1) (dp_nat _)) (.cons (.tup (SqT.of e2) (dp_nat _)) .nil)))) (dp_keys t)
/-! ### a < b of data -/
def rLtD (K : PySem.W.Frag) : R2 := fun x y H Q => ∃ d e, Dp K H x d ∧ Dp K H y e ∧ alike d e = true ∧ d ≠ .none ∧ min d.depth e.depth ≤ 64 ∧ Q (.bl (dataLt d e)) H
theorem op_ltD {X : Cx} (hu : X.A.units + 64 < cLine) : OpR X (compareOp .Lt) (rLtD X.K) := by
  intro pins s σ H x y v u Q I rx ry h
  obtain ⟨d, e, hd, he, al, ne, dep, q⟩ := h
  obtain ⟨as, r1⟩ := Dp.reads I d x v hd rx
  obtain ⟨bs, r2⟩ := Dp.reads I e y u he ry
  exact rcLt_alike d e X.A s v u as bs r1 r2 al ne (by omega) X.prog X.w X.xe _ ⟨.bl _, H, I, rfl, q⟩
end K4
end
section
namespace K4
open PySem L2
theorem BagAt.same {H H' : Hp} {b : Addr} (h : BagAt H b) (s : Same H H') : BagAt H' b := by
  obtain ⟨g, f, s0, e, w⟩ := h
  exact ⟨g, f, s0, s _ _ e, w⟩
theorem But.of {b : Addr} {H H' : Hp} (s : Same H H') : But b H H' := fun c o _ h => s c o h
theorem via2 {R : L2.St → Hp → Prop} {H : Hp} (σf : V → V → L2.St) (P : V → V → Prop) {G : Prop} (k : (∀ x y, P x y → R (σf x y) H) → G) (h : ∀ x y, P x y → R (σf x y) H) : G := k h
theorem via3 {R : L2.St → Hp → Prop} (σ : L2.St) (P : Hp → Prop) {G : Prop} (k : (∀ H, P H → R σ H) → G) (h : ∀ H, P H → R σ H) : G := k h
theorem sub_one {n : Nat} (h : 0 < n) : ((n : Nat) : Int) - 1 = ((n - 1 : Nat) : Int) := by omega
theorem good_imAt {n b : Nat} (h : b < K4.T n) : (imAt n b).length = n ∧ Val (List.range (imAt n b).length) (decR n b) ∧ IsImg (imAt n b).length (decR n b) (imAt n b) ∧ enc (List.range (imAt n b).length) (decR n b) = b := by
  have hi := imAt_ok h
  have hv := decR_ok h
  have hl := hi.len
  rw [hl]
  exact ⟨rfl, hv.1, hi, hv.2⟩
section
variable {P : Program} {w : World} {K : PySem.W.Frag} {mg : Str → Option Value} {base : Heap} {a : Ad}
abbrev s_law : Stmt := topS 47
abbrev N_law : List Str := ["_law_script", "_law_bag_here", "_law_size_here", "_law_total", "_law_way", "_law_low", "_law_high", "_law_built_here", "_law_far", "_law_first", "_law_second", "_law_keys_here", "_law_others", "_law_kept"]
theorem sc_law : FnScope N_law ["_law_script"] (defScope s_law) := ⟨rfl, rfl, rfl, by decide +kernel, rfl, by decide +kernel, by decide +kernel⟩
def spLaw (K : PySem.W.Frag) : Sp := fun vs H Q _ => ∃ (sa : Addr) (ns : List Int), vs = [.ref sa] ∧ SqL K H sa (ns.map V.int) ∧ ∀ H', Q (.bl true) H'
theorem G_law (S : Txf P w K mg base a) : FnOk P w K mg base CX0 7 (a.f 47) (a.fd 47) ["_law_script"] (spLaw K) := by
  have T := S.t
  have SF := S
  refine T.f_law.ok sc_law (fun vs H Q E h => ?_) (fun cdv A outer s H vs Q E hr h => ?_)
  · obtain ⟨_, _, rfl, _⟩ := h
    rfl
  · obtain ⟨sa, ns, rfl, hS, q⟩ := h
    have S := S
    refine ⟨_, (pss_cons (ps_set (i := 1) sc_law.nd rfl (Or.inl rfl) (pe_call (G_law_bag T) (hr.mono (by decide)) rfl T.m_law_bag T.f_law_bag.kp (B_law_bag T) .nil pass0 (pa_cons (pv 0) pa_nil)))
      (pss_cons (ps_set (i := 2) sc_law.nd rfl (Or.inl rfl) (pe_call (G_law_size T) (hr.mono (by decide)) rfl T.m_law_size T.f_law_size.kp (B_law_size T) .nil pass0 (pa_cons (pv 1) pa_nil)))
      (pss_cons (ps_set (i := 3) sc_law.nd rfl (Or.inl rfl) (pe_call (G_law_in_all T) (hr.mono (by decide)) rfl T.m_law_in_all T.f_law_in_all.kp (B_law_in_all T) .nil pass0 (pa_cons (pv 2) pa_nil)))
      (pss_cons (ps_set (i := 4) sc_law.nd rfl (Or.inl rfl) (pe_call (G_law_take T) (hr.mono (by decide)) rfl T.m_law_take T.f_law_take.kp (B_law_take T) .nil pass0 (pa_cons (pv 1) (pa_cons pe_int pa_nil))))
      (pss_cons (ps_set (i := 5) sc_law.nd rfl (Or.inl rfl) (pe_call (G_law_wide T) (hr.mono (by decide)) rfl T.m_law_wide T.f_law_wide.kp (B_law_wide T) .nil pass0 (pa_cons (pv 1) (pa_cons (pv 3) pa_nil))))
      (pss_cons (ps_set (i := 6) sc_law.nd rfl (Or.inl rfl) (pe_call (G_law_wide T) (hr.mono (by decide)) rfl T.m_law_wide T.f_law_wide.kp (B_law_wide T) .nil pass0 (pa_cons (pv 1) (pa_cons (pv 3) pa_nil))))
      (pss_cons (ps_if (pt_cmpR op_eq (pv 4) pe_int (nomark _))
        (pss_one (ps_set (i := 6) sc_law.nd rfl (Or.inl rfl) (pe_callB (call_min2 rfl) (by rfl) T.n_min (by decide +kernel) (pa_cons (pe_op op_add (pv 5) pe_int) (pa_cons (pe_op op_sub (pv 3) pe_int) pa_nil)))))
        pss_nil)
      (pss_cons (ps_if (pt_cmpR op_eq (pv 4) pe_int (nomark _))
        (pss_one (ps_set (i := 5) sc_law.nd rfl (Or.inl rfl) pe_int))
        pss_nil)
      (pss_cons (ps_if (pt_cmpR op_eq (pv 4) pe_int (nomark _))
        (pss_one (ps_set (i := 6) sc_law.nd rfl (Or.inl rfl) (pe_op op_sub (pv 3) pe_int)))
        pss_nil)
      (pss_cons (ps_set (i := 7) sc_law.nd rfl (Or.inl rfl) (pe_call (G_law_built T) (hr.mono (by decide)) rfl T.m_law_built T.f_law_built.kp (B_law_built T) .nil pass0 (pa_cons (pv 1) pa_nil)))
      (pss_cons (ps_set (i := 8) sc_law.nd rfl (Or.inl rfl) (pe_call (G_law_take T) (hr.mono (by decide)) rfl T.m_law_take T.f_law_take.kp (B_law_take T) .nil pass0 (pa_cons (pv 1) (pa_cons (pe_op op_pow pe_int pe_int) pa_nil))))
      (pss_cons (ps_set (i := 9) sc_law.nd rfl (Or.inl rfl) (pe_call (G_image_at S.toTxe) (hr.mono (by decide)) rfl T.m_image_at T.f_image_at.kp (B_image_at T) .nil passN (pa_cons (pv 2) (pa_cons (pv 5) pa_nil))))
      (pss_cons (ps_set (i := 10) sc_law.nd rfl (Or.inl rfl) (pe_call (G_image_at S.toTxe) (hr.mono (by decide)) rfl T.m_image_at T.f_image_at.kp (B_image_at T) .nil passN (pa_cons (pv 2) (pa_cons (pv 6) pa_nil))))
      (pss_cons (ps_set (i := 11) sc_law.nd rfl (Or.inl rfl) (pe_call (G_law_keys T) (hr.mono (by decide)) rfl T.m_law_keys T.f_law_keys.kp (B_law_keys T) .nil pass0 (pa_cons (pv 9) (pa_cons (pv 2) pa_nil))))
      (pss_cons (ps_set (i := 12) sc_law.nd rfl (Or.inl rfl) (pe_call (G_law_keys T) (hr.mono (by decide)) rfl T.m_law_keys T.f_law_keys.kp (B_law_keys T) .nil pass0 (pa_cons (pv 10) (pa_cons (pv 2) pa_nil))))
      (pss_cons (ps_if (PW.pt (pw_or (pt_cmpR op_isN (pv 11) pe_non (nomark _)) (pw_or1 (pt_cmpR op_isN (pv 12) pe_non (nomark _)))))
        (pss_one (ps_ret pe_bl))
        pss_nil)
      (pss_cons (ps_if (PW.pt (pw_or (pt_cmpR op_ne (pe_cmpR (op_ltD hr.units) (pv 11) (pv 12) (nomark _)) (pe_cmpR op_lt (pv 5) (pv 6) (nomark _)) (nomark _)) (pw_or1 (pt_cmpR op_ne (pe_cmpR (op_eqD hr.units) (pv 11) (pv 12) (nomark _)) (pe_cmpR op_eq (pv 5) (pv 6) (nomark _)) (nomark _)))))
        (pss_one (ps_ret pe_bl))
        pss_nil)
      (pss_cons (ps_if (PW.pt (pw_and (pt_cmpR op_eq (pv 5) pe_int (nomark _)) (pw_and1 (pt_cmpR (op_neD hr.units) (pv 9) (pe_listRg rfl rfl T.n_list (prg_1 rfl T.n_range (pv 2))) (nomark _)))))
        (pss_one (ps_ret pe_bl))
        pss_nil)
      (pss_cons (ps_if (PW.pt (pw_or (pt_not (pt_val (pe_call (G_law_numbered T) (hr.mono (by decide)) rfl T.m_law_numbered T.f_law_numbered.kp (B_law_numbered T) .nil pass0 (pa_cons (pv 9) (pa_cons (pv 5) pa_nil))))) (pw_or1 (pt_not (pt_val (pe_call (G_law_numbered T) (hr.mono (by decide)) rfl T.m_law_numbered T.f_law_numbered.kp (B_law_numbered T) .nil pass0 (pa_cons (pv 10) (pa_cons (pv 6) pa_nil))))))))
        (pss_one (ps_ret pe_bl))
        pss_nil)
      (pss_cons (ps_set (i := 13) sc_law.nd rfl (Or.inl rfl) (pe_callTy call_list_of (by rfl) T.n_list (by decide +kernel) (pa_cons (pv 9) pa_nil)))
      (pss_cons (ps_expr (pe_bm PySem.F.plainAttrs_list PySem.F.slot_list_append PySem.F.type_list_append mt_append (pv 9) (pa_cons pe_int pa_nil)))
      (pss_cons (ps_if (PW.pt (pw_or (pt_cmpR (op_neD hr.units) (pe_call (G_image_at S.toTxe) (hr.mono (by decide)) rfl T.m_image_at T.f_image_at.kp (B_image_at T) .nil passN (pa_cons (pv 2) (pa_cons (pv 5) pa_nil))) (pv 13) (nomark _)) (pw_or1 (pt_not (pt_val (pe_call (G_law_road_back S) (hr.mono (by decide)) rfl T.m_law_road_back T.f_law_road_back.kp (B_law_road_back T) .nil pass0 (pa_cons (pv 7) pa_nil)))))))
        (pss_one (ps_ret pe_bl))
        pss_nil)
      (pss_cons (ps_if (PW.pt (pw_or (pt_not (pt_val (pe_call (G_law_refused S) (hr.mono (by decide)) rfl T.m_law_refused T.f_law_refused.kp (B_law_refused T) .nil pass0 (pa_cons (pv 2) (pa_cons (pe_un un_neg pe_int) pa_nil))))) (pw_or1 (pt_not (pt_val (pe_call (G_law_refused S) (hr.mono (by decide)) rfl T.m_law_refused T.f_law_refused.kp (B_law_refused T) .nil pass0 (pa_cons (pv 2) (pa_cons (pv 3) pa_nil))))))))
        (pss_one (ps_ret pe_bl))
        pss_nil)
      (pss_one (ps_ret (pe_and (pe_call (G_law_refused S) (hr.mono (by decide)) rfl T.m_law_refused T.f_law_refused.kp (B_law_refused T) .nil pass0 (pa_cons (pv 2) (pa_cons (pe_op op_sub (pe_un un_neg pe_int) (pv 8)) pa_nil))) (pe_one (pe_call (G_law_refused S) (hr.mono (by decide)) rfl T.m_law_refused T.f_law_refused.kp (B_law_refused T) .nil pass0 (pa_cons (pv 2) (pa_cons (pe_op op_add (pe_op op_add (pv 3) pe_int) (pv 8)) pa_nil)))))))))))))))))))))))))))))), ?_⟩
    refine ⟨_, rfl, sa, ns, rfl, hS, fun H1 b hb1 s1 B1 => ?_⟩
    refine ⟨_, rfl, b, rfl, B1, fun n H2 hn b2 B2 => ?_⟩
    refine ⟨_, rfl, n, rfl, hn, fun H3 s3 => ?_⟩
    have B3 := B2.same s3
    refine ⟨_, rfl, b, 6, rfl, B3, by decide, by decide, fun way H4 hway b4 B4 => ?_⟩
    have hT := T_pos n
    refine ⟨_, rfl, _, rfl, b, K4.T n, rfl, B4, hT, fun low H5 hlow b5 B5 => ?_⟩
    refine ⟨_, rfl, _, rfl, b, K4.T n, rfl, B5, hT, fun high H6 hhigh b6 B6 => ?_⟩
    refine via2 (R := ?R) (H := H6) (fun x y => [some (.ref sa), some (.ref b), some (vN n), some (vN (K4.T n)), some (vN way), some x, some y, none, none, none, none, none, none, none]) (fun x y => ∃ lo hi : Nat, x = vN lo ∧ y = vN hi ∧ lo < K4.T n ∧ hi < K4.T n) (fun key => ?k1) ?k2
    case k1 =>
      have eT := sub_one hT
      have top : K4.T n - 1 < K4.T n := by omega
      have emin : V.int (if ((K4.T n : Nat) : Int) - 1 < ((low : Nat) : Int) + 1 then ((K4.T n : Nat) : Int) - 1 else ((low : Nat) : Int) + 1) = vN (min (low + 1) (K4.T n - 1)) := by
        show V.int _ = V.int _
        congr 1
        split <;> omega
      have etop : V.int (((K4.T n : Nat) : Int) - 1) = vN (K4.T n - 1) := by rw [eT]
      refine ⟨_, rfl, rfl, _, rfl, ite2 (fun c1 => ?_) (fun c1 => ?_)⟩
      · refine ⟨_, rfl, _, _, rfl, rfl, _, rfl, _, _, rfl, rfl, _, _, rfl, ?_⟩
        refine ⟨_, rfl, rfl, _, rfl, ite2 (fun c2 => ?_) (fun c2 => ?_)⟩
        · refine ⟨_, rfl, rfl, _, rfl, ite2 (fun c3 => ⟨_, rfl, _, _, rfl, rfl, ?_⟩) (fun c3 => ?_)⟩
          · exact key _ _ ⟨0, K4.T n - 1, rfl, etop, hT, top⟩
          · exact key _ _ ⟨0, min (low + 1) (K4.T n - 1), rfl, emin, hT, by omega⟩
        · refine ⟨_, rfl, rfl, _, rfl, ite2 (fun c3 => ⟨_, rfl, _, _, rfl, rfl, ?_⟩) (fun c3 => ?_)⟩
          · exact key _ _ ⟨low, K4.T n - 1, rfl, etop, hlow, top⟩
          · exact key _ _ ⟨low, min (low + 1) (K4.T n - 1), rfl, emin, hlow, by omega⟩
      · refine ⟨_, rfl, rfl, _, rfl, ite2 (fun c2 => ?_) (fun c2 => ?_)⟩
        · refine ⟨_, rfl, rfl, _, rfl, ite2 (fun c3 => ⟨_, rfl, _, _, rfl, rfl, ?_⟩) (fun c3 => ?_)⟩
          · exact key _ _ ⟨0, K4.T n - 1, rfl, etop, hT, top⟩
          · exact key _ _ ⟨0, high, rfl, rfl, hT, hhigh⟩
        · refine ⟨_, rfl, rfl, _, rfl, ite2 (fun c3 => ⟨_, rfl, _, _, rfl, rfl, ?_⟩) (fun c3 => ?_)⟩
          · exact key _ _ ⟨low, K4.T n - 1, rfl, etop, hlow, top⟩
          · exact key _ _ ⟨low, high, rfl, rfl, hlow, hhigh⟩
    rintro _ _ ⟨lo, hi, rfl, rfl, hlo, hhi⟩
    refine ⟨_, rfl, b, rfl, B6, fun H7 bp im ps hbp b7 B7 ebp hil hv hi' => ?_⟩
    have nbp : bp ≠ b := fun e => by
      obtain ⟨g, f, s0, e0, _⟩ := B6
      rw [e, e0] at hbp
      cases hbp
    refine ⟨_, rfl, _, _, rfl, rfl, ⟨by decide, by decide, by decide⟩, b, 1000000000000, rfl, B7, by decide, by decide, fun far H8 hfar b8 B8 => ?_⟩
    have ebp8 := b8 _ _ nbp ebp
    obtain ⟨la, va, ia, ea⟩ := good_imAt hlo
    obtain ⟨lb, vb, ib, eb⟩ := good_imAt hhi
    obtain ⟨kc1, kc2⟩ := keys_cmp hlo hhi
    have hz0 := imAt_zero n
    -- the two images
    refine ⟨_, rfl, _, rfl, n, _, rfl, hn, fun z => absurd z (by omega), fun x1 ex1 hx1 H9 fp hfp s9 e9 => ?_⟩
    obtain rfl : lo = x1 := by omega
    refine ⟨_, rfl, _, rfl, n, _, rfl, hn, fun z => absurd z (by omega), fun x2 ex2 hx2 H10 sp hsp s10 e10 => ?_⟩
    obtain rfl : hi = x2 := by omega
    have e910 := s10 _ _ e9
    have fa := forms_of va ia
    have fb := forms_of vb ib
    have ga := img_good va ia
    have gb := img_good vb ib
    -- their keys
    refine ⟨_, rfl, _, rfl, fp, imAt n lo, by rw [la]; rfl, e910, ga, by omega, fa, fun H11 kp rs hkp s11 ek hK => ?_⟩
    refine ⟨_, rfl, _, rfl, sp, imAt n hi, by rw [lb]; rfl, s11 _ _ e10, gb, by omega, fb, fun H12 op rs2 hop s12 eo hO => ?_⟩
    have e12k := s12 _ _ ek
    have hK12 := hK.mono (Tups.of s12)
    refine ⟨_, rfl, rfl, _, rfl, ite2 (fun c => ?_) (fun c => ?_)⟩
    · have c : V.ref kp = V.non := of_decide_eq_true c
      cases c
    refine ⟨_, rfl, rfl, _, rfl, ite2 (fun c => ?_) (fun c => ?_)⟩
    · have c : V.ref op = V.non := of_decide_eq_true c
      cases c
    -- the comparisons
    refine ⟨_, rfl, _, rfl, _, _, .lst (SqL.of e12k) (dp_keys hK12), .lst (SqL.of eo) (dp_keys hO), by rw [PySem.W.alike]; exact alike_keys _ _, (fun z => by cases z), ?_, ?_⟩
    · have := depth_keys (keysOf (imAt n lo))
      rw [PyData.depth]
      omega
    rw [lt_keysD, kc1]
    refine ⟨_, rfl, _, rfl, _, _, rfl, rfl, rfl, _, rfl, ite2 (fun c => ?_) (fun c => ?_)⟩
    · exfalso
      have e : decide (((lo : Nat) : Int) < ((hi : Nat) : Int)) = decide (lo < hi) := decide_eq_decide.mpr (by omega)
      have c : (!decide (V.bl (decide (lo < hi)) = V.bl (decide (((lo : Nat) : Int) < ((hi : Nat) : Int))))) = true := c
      rw [e, decide_eq_true rfl] at c
      cases c
    refine ⟨_, rfl, _, rfl, _, _, .lst (SqL.of e12k) (dp_keys hK12), .lst (SqL.of eo) (dp_keys hO), shaped_keys _, shaped_keys _, ?_⟩
    rw [eqv_keysD, kc2]
    refine ⟨_, rfl, _, rfl, rfl, rfl, _, rfl, ite2 (fun c => ?_) (fun c => ?_)⟩
    · exfalso
      have e : decide (V.int ((lo : Nat) : Int) = V.int ((hi : Nat) : Int)) = decide (lo = hi) := decide_eq_decide.mpr ⟨fun z => by have := V.int.inj z; omega, fun z => by rw [z]⟩
      rw [e, decide_eq_true rfl] at c
      cases c
    have s912 := (s10.trans s11).trans s12
    have e12a := s912 _ _ e9
    have e12b := (s11.trans s12) _ _ e10
    have bp12 := (s9.trans s912) _ _ ebp8
    -- number 0
    refine via3 (R := ?R2) [some (.ref sa), some (.ref b), some (vN n), some (vN (K4.T n)), some (vN way), some (vN lo), some (vN hi), some (.ref bp), some (vN far), some (.ref fp), some (.ref sp), some (.ref kp), some (.ref op), none] (fun H' => Same H12 H') (fun key => ?k3) ?k4
    case k3 =>
      refine ⟨_, rfl, rfl, _, rfl, ite2 (fun c => ?_) (fun c => iteF ?_)⟩
      · have c : V.int ((lo : Nat) : Int) = V.int 0 := of_decide_eq_true c
        have c : lo = 0 := by have := V.int.inj c; omega
        subst c
        refine ⟨_, rfl, _, rfl, _, rfl, RgOk.nat (by omega), fun rp hrp => ?_⟩
        rw [rgV_nat]
        have sR := same_new (o := .lst (vL (List.range n))) hrp
        refine ⟨_, _, .lst (SqL.of (sR _ _ e12a)) (dp_nat _), .lst (SqL.of upd_same) (dp_nat _), shaped_lI _, shaped_lI _, _, rfl, ite2 (fun c => ?_) (fun c => ?_)⟩
        · rw [hz0, eqv_lI, decide_eq_true rfl] at c
          cases c
        · exact key _ sR
      · exact key _ (Same.refl _)
    intro H13 s13
    have f13 := s13 _ _ e12a
    have g13 := s13 _ _ e12b
    have bp13 := s13 _ _ bp12
    -- the numbers
    refine ⟨_, rfl, _, rfl, fp, imAt n lo, decR n lo, _, rfl, f13, by omega, va, ia, fun H14 s14 => ?_⟩
    refine ⟨_, rfl, ite2 (fun c => ?_) (fun c => ?_)⟩
    · rw [ea, decide_eq_true rfl] at c
      cases c
    refine ⟨_, rfl, _, rfl, sp, imAt n hi, decR n hi, _, rfl, s14 _ _ g13, by omega, vb, ib, fun H15 s15 => ?_⟩
    refine ⟨_, rfl, ite2 (fun c => ?_) (fun c => ?_)⟩
    · rw [eb, decide_eq_true rfl] at c
      cases c
    have s1315 := s14.trans s15
    have f15 := s1315 _ _ f13
    have bp15 := s1315 _ _ bp13
    refine ⟨_, rfl, fp, _, rfl, .inl (SqL.of f15), fun q1 hq1 => ?_⟩
    have sQ := same_new (o := .lst (vL (imAt n lo))) hq1
    have f16 := sQ _ _ f15
    have bp16 := sQ _ _ bp15
    have nq : q1 ≠ fp := Ne.symm (ne_of_none f15 hq1)
    have nbf : bp ≠ fp := ne_of_none ebp8 hfp
    refine ⟨_, rfl, .inl ⟨rfl, _, SqL.of f16⟩, fp, _, _, rfl, rfl, f16, by rw [vL, List.length_map]; exact sz64' (by omega), ?_⟩
    have bp17 : (upd (upd H15 q1 (.lst (vL (imAt n lo)))) fp (.lst (vL (imAt n lo) ++ [V.int 0]))) bp = some (.lst (vL im)) := by
      rw [upd_ne nbf]
      exact bp16
    have q17 : (upd (upd H15 q1 (.lst (vL (imAt n lo)))) fp (.lst (vL (imAt n lo) ++ [V.int 0]))) q1 = some (.lst (vL (imAt n lo))) := by
      rw [upd_ne nq]
      exact upd_same
    generalize upd (upd H15 q1 (.lst (vL (imAt n lo)))) fp (.lst (vL (imAt n lo) ++ [V.int 0])) = H17 at bp17 q17 ⊢
    refine ⟨_, rfl, _, rfl, n, _, rfl, hn, fun z => absurd z (by omega), fun x1 ex1 hx1 H18 p18 hp18 s18 e18 => ?_⟩
    obtain rfl : lo = x1 := by omega
    refine ⟨_, rfl, _, _, .lst (SqL.of e18) (dp_nat _), .lst (SqL.of (s18 _ _ q17)) (dp_nat _), shaped_lI _, shaped_lI _, _, rfl, ite2 (fun c => ?_) (fun c => ?_)⟩
    · rw [eqv_lI, decide_eq_true rfl] at c
      cases c
    refine ⟨_, rfl, bp, im, ps, rfl, s18 _ _ bp17, hil, hv, hi', fun H19 s19 => ⟨_, rfl, ite2 (fun c => by cases c) (fun c => ?_)⟩⟩
    -- refused
    refine ⟨_, rfl, _, rfl, n, _, rfl, hn, .inl (by decide), fun H20 s20 => ⟨_, rfl, ite2 (fun c => by cases c) (fun c => ?_)⟩⟩
    refine ⟨_, rfl, _, rfl, n, _, rfl, hn, .inr (by omega), fun H21 s21 => ⟨_, rfl, ite2 (fun c => by cases c) (fun c => ?_)⟩⟩
    refine ⟨_, rfl, _, rfl, _, rfl, _, _, rfl, rfl, n, _, rfl, hn, .inl (by omega), fun H22 s22 => ⟨true, rfl, iteT ?_⟩⟩
    exact ⟨_, rfl, _, rfl, _, _, rfl, rfl, _, rfl, _, _, rfl, rfl, n, _, rfl, hn, .inr (by omega), fun H23 s23 => q H23⟩
end
end K4
end
section
namespace K4
open PySem PySem.W PySem.Calls PyProof.Rows PySem.HandSPX
/-! ### making the error: its __init__ asks the base's, then sets its one field -/
def nA : Arguments := { posonlyargs := [], args := [{ arg := "self", annotation := none, pos := ⟨18, 17, 18, 21⟩ }, { arg := "value", annotation := none, pos := ⟨18, 23, 18, 28⟩ }], vararg := none, kwonlyargs := [], kw_defaults := [], kwarg := none, defaults := [] }
def nB : List Stmt :=
  [.Expr (.Call (.Attribute (.Call (.Name "super" ⟨19, 8, 19, 13⟩) [] [] ⟨19, 8, 19, 15⟩) "__init__" ⟨19, 8, 19, 24⟩) [.Constant (.str "the number is out of range") 0 ⟨19, 25, 19, 53⟩] [] ⟨19, 8, 19, 54⟩) ⟨19, 8, 19, 54⟩, .Assign [.Attribute (.Name "self" ⟨20, 8, 20, 12⟩) "value" ⟨20, 8, 20, 18⟩] (.Name "value" ⟨20, 21, 20, 26⟩) ⟨20, 8, 20, 26⟩]
def nS : Scope := { kind := .function, names := [("self", .local), ("value", .local), ("__class__", .free), ("super", .globalImplicit)], isGenerator := false, isCoroutine := false, more := [] }
/-- what the written part says of the class, at C, and of its __init__, at f -/
structure MadeC (P : Program) (K : Frag) (mg : Str → Option Value) (C f : Addr) : Prop where
  cls : ∃ nm q N bs bm sn sub ab col dd k0 k1 k2 k3 k5, K.lookup C = some (excClassObj nm q C N bs bm true sn sub ab col dd k0 k1 k2 k3 k5 "ValueError.__new__") ∧ refsVE bm = true ∧ alongIn K "__init__" bm = some (some (.builtin "ValueError.__init__"))
  sa : findIn K (.ref C) "__setattr__" = some (some (.builtin "object.__setattr__"))
  noN : findIn K (.ref C) "value" = some none
  iC : findIn K (.ref C) "__init__" = some (some (.ref f))
  tC : typeIn K (.ref f) = some (.type "function")
  stat : nsIn K cStatics "thirdparty.any" = some none
  subVE : subIn K (.ref C) (.type "ValueError") = some true
  subC : mroIn K C (.ref C) = some true
  noS : mg "super" = none
  top : (P.main.scope.names.lookup ("super" : Str)).isSome = false
  fn : ∃ (oc : Value) (od : Option Addr) (doc pm : Value) (an : Option Addr) (ct : Value) (osl : Array (Option Value)) (cda cc : Addr),
    K.lookup f = some ⟨oc, od, .func (ksFn "__init__" "InvalidNumber.__init__" nA nB nS .none .none doc pm an (.ref cda) ct cc), osl⟩ ∧ codeIn K (.ref cda) "InvalidNumber.__init__" = true ∧
    (∃ (ccl : Value) (cdd : Option Addr) (vs : Array Value) (ccs : Array (Option Value)) (file : Str) (tf : Tok), K.lookup cda = some ⟨ccl, cdd, .fields vs, ccs⟩ ∧ vs[2]? = some (.str file tf) ∧ ((P.main.file : Str) == file) = true) ∧
    ∃ (cl : Value) (cld : Option Addr) (csl : Array (Option Value)), K.lookup cc = some ⟨cl, cld, .cell (some (.ref C)), csl⟩
theorem one_size (v : Value) : [v].length ≤ sizeLine := by
  rw [sizeLine_eq]
  exact (by decide : 1 ≤ 16777216)
section
variable {prog : Program} {w : World} {A : Around} {E : Value → Shared → Prop} {K : Frag} {mg : Str → Option Value} {C f : Addr} {h : Heap} {g : Array GenState} {d : Drawn} {t : Nat} {os : OsState}
/-- the base's __init__, bound, called -/
theorem call_mw {u e t0 : Addr} {rest : List Value} {Q : Value → Shared → Prop} (T : MadeC prog K mg C f) (X : K.In h) (he : h.get? e = some (excO C t0)) (hu : h.get? u = some (kxs_mw "ValueError.__init__" e)) (hrest : rest.length ≤ sizeLine)
    (hq : ∀ h' t1, (∀ b o, b ≠ e → h.get? b = some o → h'.get? b = some o) → h'.get? e = some (excO C t1) → Q .none ⟨h', g, d, t, os⟩) :
    wpAny (model prog w) A (call (.ref u) rest) Q E ⟨h, g, d, t, os⟩ := by
  obtain ⟨nm, q, N, bs, bm, sn, sub, ab, col, dd, k0, k1, k2, k3, k5, hC, hbm, _⟩ := T.cls
  have FB := F.excBase_ValueError
  refine wpAny_call (codeAny_of_tree ?_)
  show wpAny _ A.in1 (callAny (.ref u) ⟨rest, []⟩) _ _ _
  simp only [callAny]
  refine wpAny_bind (wpAny_load hu ?_)
  simp only [kxs_mw, show (Value.type "method-wrapper" == Value.type "method" || Value.type "method-wrapper" == Value.type "builtin_function_or_method" || Value.type "method-wrapper" == Value.type "method-wrapper") = true by decide, if_true]
  refine KFB.if_so (by decide) ?_
  refine wpAny_bind (check_bound_init FB.toExcCallFacts (X _ _ hC) he rfl ?_)
  refine wpAny_bind (wpAny_pure (wpAny_pure ?_))
  refine ⟨plainId_quiet FB.init.plain _, codeAny_builtin FB.initEntry ?_⟩
  exact exc_init_tree (cls := .ref C) (t0 := t0) (dv := none) (c2 := .none) (c3 := .none) (b4 := .bool false) he hrest fun h' k e' t' => hq h' _ k e'
end
/-- what __init__ leaves of a fresh error at x -/
structure InitEnd (h h' : Heap) (x C dx : Addr) (v : Value) : Prop where
  keep : ∀ b o, b ≠ x → h.get? b = some o → h'.get? b = some o
  obj : ∃ t1 : Addr, h'.get? x = some { cls := .ref C, dict := some dx, data := .fields #[.ref t1, .none, .none, .none, .bool false, .none] }
  dbig : h.objs.size ≤ dx
  dne : dx ≠ x
  ns : h'.Ns1 dx (fun y => if y = "value" then some v else none)
section
variable {prog : Program} {w : World} {A : Around} {E : Value → Shared → Prop} {R : Result → Shared → Prop} {s : Shared} {K : Frag} {mg : Str → Option Value} {C f : Addr} {base : Heap}
theorem inv_init (T : MadeC prog K mg C f) (MO : L2.Mod K mg base) (kb : ∀ b o, base.get? b = some o → s.heap.get? b = some o) {x t0 : Addr} {v : Value} (X : K.In s.heap) (hlim : s.heap.NoLimit) (hx : s.heap.get? x = some (excO C t0)) (hnx : K.lookup x = none) (hroom : A.depth < recursionLimit)
    (hq : ∀ h' tk dx, InitEnd s.heap h' x C dx v → R (.ok (.ret .none)) { s with heap := h', toks := tk }) :
    codeAny (model prog w) A (.call (.ref f) ⟨[.ref x, v], []⟩) R s := by
  obtain ⟨oc, od, doc, pm, an, ct, osl, cda, cc, ho, hcd, ⟨ccl, cdd, vs, ccs, file, tf, hcode, hvs, hfile⟩, cl, cld, csl, hcell⟩ := T.fn
  obtain ⟨nm, q, N, bs, bm, sn, sub, ab, col, dd, k0, k1, k2, k3, k5, hC, hbm, hal⟩ := T.cls
  have hcl : clsIn K C = some { name := nm, bases := bs, mro := .ref C :: bm, ns := N, qualname := q, hasDict := true, slotNames := sn, subclasses := sub, abstract := ab, collection := col, hasDel := false } := by unfold clsIn; rw [hC] <;> rfl
  obtain ⟨mb, hb1, hb2⟩ := MO.blt
  refine ks_codeAny_call_defAt (binds := [("self", .ref x), ("value", v)]) hroom (X _ _ ho) rfl hlim (codeRec_of X hcd) rfl (BindsTo.of_eq (by first | rfl | with_unfolding_all rfl)) (by show ∀ y ∈ nS.names, y.2 ≠ .cell; decide) (by intro y hy; simp only [List.mem_cons, List.mem_nil_iff, or_false] at hy; rcases hy with rfl | rfl <;> rfl) (fun h₀ hn k => ?_)
  have X₀ : K.In h₀ := X.keeps k
  have hxC : x ≠ C := fun z => by rw [z, hC] at hnx; cases hnx
  have kb₀ : ∀ b o, base.get? b = some o → h₀.get? b = some o := fun b o e => k b o (kb b o e)
  have hx₀ := k _ _ hx
  have hsz : s.heap.objs.size < h₀.objs.size := hn.lt
  have hxs : x < s.heap.objs.size := Heap.lt_size hx
  obtain ⟨hp, g, d, t, os⟩ := s
  show _root_.PySem.wpAt (model prog w) (A.deeper (ksEnv "InvalidNumber.__init__" nS hp.objs.size f (.ref cda) cc)) (.func nB (ksEnv "InvalidNumber.__init__" nS hp.objs.size f (.ref cda) cc))
    (execs [.Expr (.Call (.Attribute (.Call (.Name "super" ⟨19, 8, 19, 13⟩) [] [] ⟨19, 8, 19, 15⟩) "__init__" ⟨19, 8, 19, 24⟩) [.Constant (.str "the number is out of range") 0 ⟨19, 25, 19, 53⟩] [] ⟨19, 8, 19, 54⟩) ⟨19, 8, 19, 54⟩, .Assign [.Attribute (.Name "self" ⟨20, 8, 20, 12⟩) "value" ⟨20, 8, 20, 18⟩] (.Name "value" ⟨20, 21, 20, 26⟩) ⟨20, 8, 20, 26⟩] (ksEnv "InvalidNumber.__init__" nS hp.objs.size f (.ref cda) cc)) _ _ ⟨h₀, g, d, t + 2, os⟩
  refine ks_wpAt_execs_cons (ks_wpAt_Expr_any ?_)
  refine ks_wpAt_MethodCall ?_
  refine ks_wpAt_super_base (env := ksEnv "InvalidNumber.__init__" nS hp.objs.size f (.ref cda) cc) rfl rfl rfl rfl (X₀ _ _ ho) rfl rfl rfl (X₀ _ _ hcode) rfl hvs hfile T.top ?_
  refine ks_loadName_global rfl rfl (loadGlobal_builtin (env := ksEnv "InvalidNumber.__init__" nS hp.objs.size f (.ref cda) cc) (MO.glob.keeps kb₀) T.noS (hb1.keeps kb₀) ((hb2 "super" (by decide)).trans (by rfl)) ⟨rfl, ?_⟩)
  refine wpAny_loadName_free rfl rfl rfl ⟨_, X₀ _ _ hcell, rfl⟩ ?_
  refine wpAny_loadName_local rfl rfl hn (show _ = some (Value.ref x) by rfl) ?_
  refine ks_wpAny_isType_cls (X₀ _ _ hC) rfl ⟨rfl, ?_⟩
  refine ks_wpAny_call_super (X₀ _ _ hC) rfl hx₀ rfl (fun c e => by cases e) (looks_mroIn X₀ T.subC) (fun h₁ hso k₁ => ?_)
  have X₁ : K.In h₁ := X₀.keeps k₁
  have hx₁ := k₁ _ _ hx₀
  have I₁ : InstAt h₁ x (excO C t0) C none := ⟨hx₁, rfl, rfl, trivial⟩
  have hI : Looks (model prog w) h₁ (isInstance (.ref x) (.type "ValueError")) true := I₁.type.andThen (looks_subIn X₁ T.subVE)
  refine kxs_getMethod kxs_ValueError hso (looks_opaque X₁ T.stat) (l₀ := .ref C :: bm) ((looks_clsIn X₁ hcl).andThen .now) (l := bm) (by simp [List.dropWhile_cons]) X₁ hal hI hxC rfl ?_
  have he : starEach [Expr.Constant (Const.str "the number is out of range") 0 ⟨19, 25, 19, 53⟩] (ksEnv "InvalidNumber.__init__" nS hp.objs.size f (.ref cda) cc) = (false, eval (Expr.Constant (Const.str "the number is out of range") 0 ⟨19, 25, 19, 53⟩) (ksEnv "InvalidNumber.__init__" nS hp.objs.size f (.ref cda) cc)) :: starEach [] (ksEnv "InvalidNumber.__init__" nS hp.objs.size f (.ref cda) cc) := rfl
  have k₂ : ∀ b o, h₁.get? b = some o → (h₁.push (kxs_mw "ValueError.__init__" x)).get? b = some o := fun b o e => Heap.get?_push_of_some _ e
  have X₂ : K.In (h₁.push (kxs_mw "ValueError.__init__" x)) := X₁.keeps k₂
  have hu : (h₁.push (kxs_mw "ValueError.__init__" x)).get? h₁.objs.size = some (kxs_mw "ValueError.__init__" x) := Heap.get?_push_at rfl rfl
  show wpAny _ _ (callWith ⟨19, 8, 19, 54⟩ (.ref h₁.objs.size) [] (backTo ⟨19, 8, 19, 54⟩ (starEach [Expr.Constant (Const.str "the number is out of range") 0 ⟨19, 25, 19, 53⟩] (ksEnv "InvalidNumber.__init__" nS hp.objs.size f (.ref cda) cc))) []) _ _ _
  rw [he]
  refine kxs_callWith (i := "ValueError.__init__") (x := x) rfl (evalArgs_plain ?_)
  show wpAny _ _ (spliced (backTo _ (starEach [Expr.Constant (Const.str "the number is out of range") 0 _] (ksEnv "InvalidNumber.__init__" nS hp.objs.size f (.ref cda) cc)))) _ _ _
  refine PyProof.Rows.spliced_more ?_
  refine wpAny_Constant_str ?_
  refine PyProof.Rows.spliced_none ⟨hu, ?_⟩
  refine call_mw T X₂ (k₂ _ _ hx₁) hu (one_size _) fun h₃ t1 k₃ hx₃ => ?_
  have kk : ∀ b o, b ≠ x → h₀.get? b = some o → h₃.get? b = some o := fun b o hb e => k₃ b o hb (k₂ b o (k₁ b o e))
  have X₃ : K.In h₃ := fun a o e => kk a o (fun z => by rw [z, hnx] at e; cases e) (X₀ a o e)
  have hn₃ : h₃.Ns hp.objs.size (fun y => List.lookup y [(("self" : Str), Value.ref x), (("value" : Str), v)].reverse) := hn.at fun o e => kk _ _ (Nat.ne_of_gt hxs) e
  refine wpAt_of_wpAny ?_
  refine wpAny_execs_cons (plainObj_wpAny_Assign_Attribute ?_)
  refine ESX.ldL (v := v) hn₃ rfl (ESX.ldL (v := .ref x) hn₃ rfl ?_)
  refine set_plain X₃ (ox := excO C t1) (od := none) ⟨hx₃, rfl, rfl, trivial⟩ T.sa ?_
  refine exc_osa X₃ hx₃ hcl (show refsVE (.ref C :: bm) = true from hbm) rfl T.noN (fun h₄ tk₄ dx k₄ dn dne hx₄ hn₄ => ?_)
  have hdx : hp.objs.size ≤ dx := by
    have y : hp.objs.size < h₃.objs.size := hn₃.lt
    exact Nat.le_of_lt (Nat.lt_of_lt_of_le y dn)
  exact wpAny_execs_nil (hq h₄ tk₄ dx ⟨fun b o hb e => k₄ b o hb (kk b o hb (k b o e)), ⟨_, hx₄⟩, hdx, dne, hn₄⟩)
theorem inv_made (T : MadeC prog K mg C f) (MO : L2.Mod K mg base) (kb : ∀ b o, base.get? b = some o → s.heap.get? b = some o) {v : Value} (X : K.In s.heap) (hlim : s.heap.NoLimit) (hroom : A.depth + 1 < recursionLimit)
    (hq : ∀ h' tk e d, OwnMade s.heap h' e C d v → R (.ok (.ret (.ref e))) { s with heap := h', toks := tk }) :
    codeAny (model prog w) A (.call (.ref C) ⟨[v], []⟩) R s := by
  obtain ⟨nm, q, N, bs, bm, sn, sub, ab, col, dd, k0, k1, k2, k3, k5, hC, hbm, _⟩ := T.cls
  obtain ⟨hp, g, dr, tk, os⟩ := s
  have k : ∀ b o, hp.get? b = some o → ((hp.push (kdv_tup [v])).push (excO C hp.objs.size)).get? b = some o := fun b o e => Heap.get?_push_of_some _ (Heap.get?_push_of_some _ e)
  have hget : ((hp.push (kdv_tup [v])).push (excO C hp.objs.size)).get? (hp.objs.size + 1) = some (excO C hp.objs.size) := by heap_get
  have hnx : K.lookup (hp.objs.size + 1) = none := by
    cases e : K.lookup (hp.objs.size + 1) with
    | none => rfl
    | some o =>
      have z : hp.get? (hp.objs.size + 1) = some o := X _ _ e
      exact absurd (Nat.lt_of_succ_lt (Heap.lt_size z)) (Nat.lt_irrefl _)
  refine call_own F.excBase_ValueError (fun X => refsVE_contains X bm hbm) (X _ _ hC) (looks_findIn X T.iC) (fun self => bind_fn X self T.tC) (one_size v) ?_
  refine inv_init (s := ⟨(hp.push (kdv_tup [v])).push (excO C hp.objs.size), g, dr, tk, os⟩) T MO (fun b o e => k b o (kb b o e)) (X.keeps k) (hlim.keeps k) hget hnx ?_ fun h' tk' dx ⟨k', ⟨t1, hx⟩, dn, dne, hns⟩ => ?_
  · show A.depth + 1 < recursionLimit
    exact hroom
  · have old : ∀ b o, hp.get? b = some o → h'.get? b = some o := fun b o e => k' b o (Nat.ne_of_lt (Nat.lt_succ_of_lt (Heap.lt_size e))) (k b o e)
    have z : hp.objs.size + 1 + 1 ≤ dx := by
      first
        | (simpa only [Heap.size_push] using dn)
        | exact dn
        | (have q := dn; rw [Heap.size_push, Heap.size_push] at q; exact q)
    exact ⟨rfl, hq h' tk' (hp.objs.size + 1) dx ⟨old, Nat.le_succ _, ⟨_, _, hx, rfl, rfl, rfl, rfl, rfl⟩, Nat.le_trans (Nat.le_trans (Nat.le_succ _) (Nat.le_succ _)) z, dne, hns⟩⟩
theorem madeN {P : Program} {w : World} (T : MadeC P K mg C f) : ∀ (A : Around) (outer : List Env) (R : Result → Shared → Prop) (s : Shared) (H : L2.Hp) (v : Value), L2.Room 1 A → L2.Env0 P w K mg base A outer s H →
    (∀ h' tk e d, OwnMade s.heap h' e C d v → R (.ok (.ret (.ref e))) { s with heap := h', toks := tk }) → codeAny (model P w) A (.call (.ref C) ⟨[v], []⟩) R s := fun A outer R s H v hr G hq =>
  inv_made T G.mod (fun b o e => (G.bs b o e).1) (fun a o e => (G.bs a o (G.mod.kin a o e)).1) (G.mod.nolimit.keeps fun b o e => (G.bs b o e).1) (by have := hr.dp; omega) hq
end
end K4
end
section
namespace K4
open PySem PySem.Spec PyProof.Rows L2
/-! ### the facts, each one that k_is finds, make the whole -/
theorem exm_own {K : PySem.W.Frag} {S : Addr} (h1 : PySem.W.subIn K (.ref S) (.type "BaseException") = some true) (h2 : PySem.W.isClsIn K S = true) (h3 : PySem.W.typeIn K (.ref S) = some (.type "type")) (h4 : PySem.W.subIn K (.ref S) (.ref S) = some true) :
    PySem.W.exmOne K (.ref S) (.ref S) = some true := by
  have h2' : (PySem.W.clsIn K S).isSome = true := h2
  unfold PySem.W.exmOne PySem.W.kitCls
  simp [h1, h2', h3, h4]
theorem kit_up {K : PySem.W.Frag} {S T : Addr} (h2 : PySem.W.isClsIn K T = true) (h3 : PySem.W.typeIn K (.ref T) = some (.type "type")) (h4 : PySem.W.subIn K (.ref S) (.ref T) = some true) : PySem.W.kitOne K (.ref S) (.ref T) = some true := by
  have h2' : (PySem.W.clsIn K T).isSome = true := h2
  unfold PySem.W.kitOne PySem.W.kitCls
  split
  · rfl
  · simp [h2', h3, h4]
theorem base_up {K : PySem.W.Frag} {M : Addr} {v : Value} (h1 : PySem.W.ownIn K "__init__" (.ref M) = some none) (h2 : PySem.W.ownIn K "__init__" (.type "ValueError") = some (some v)) :
    PySem.W.alongIn K "__init__" [.ref M, .type "ValueError", .type "Exception", .type "BaseException", .type "object"] = some (some v) := by
  simp only [PySem.W.alongIn, h1, h2]
theorem tup_ints {K : PySem.W.Frag} {k : Addr} {dd : Option Addr} {its : Array Value} {n : Nat} {sl : Array (Option Value)} {l : List Nat} (h : K.lookup k = some ⟨.type "tuple", dd, .seq its n, sl⟩) (hz : its.size ≤ 1000) (hv : Vals (vL l) its.toList) :
    ∃ (o : Obj) (its : Array Value) (n : Nat), K.lookup k = some o ∧ o.cls = .type "tuple" ∧ o.data = .seq its n ∧ its.size ≤ sizeLine ∧ Vals (vL l) its.toList := ⟨_, its, n, h, rfl, rfl, Nat.le_trans hz (by rw [sizeLine_eq]; decide), hv⟩
def adOf (fl : List Addr) (dl : List FuncData) (d0 : FuncData) (tL : Tok) (aF aS cE iE : Addr) (shx : ShX) : Ad := { f := fun i => fl.getD i 0, fd := fun i => dl.getD i d0, tL := tL, aF := aF, aS := aS, cE := cE, shx := shx, iE := iE }
section
variable {P : Program} {w : World} {K : PySem.W.Frag} {mg : Str → Option Value} {base : Heap}
theorem shp_mk {aS : Addr} {h0 h1 h2 h3 h4 h5 h6 h7 : Int} {k0 k1 k2 k3 k4 k5 k6 k7 : Addr} {s0 s1 s2 s3 s4 s5 s6 s7 : Str} {t0 t1 t2 t3 t4 t5 t6 t7 : Tok} {u0_0 u1_0 u1_1 u2_0 u2_1 u3_0 u3_1 u3_2 u4_0 u4_1 u4_2 u5_0 u5_1 u5_2 u5_3 u6_0 u6_1 u6_2 u6_3 u7_0 u7_1 u7_2 u7_3 : Tok} {n0 n1 n2 n3 n4 n5 n6 n7 : Nat} {dd0 dd1 dd2 dd3 dd4 dd5 dd6 dd7 : Option Addr} {sl0 sl1 sl2 sl3 sl4 sl5 sl6 sl7 : Array (Option Value)} {nS : Nat}
    (ne : (aS == sysModules) = false) (lS : K.lookup aS = some ⟨.type "dict", none, .dict #[⟨h0, .ref k0, .str s0 t0⟩, ⟨h1, .ref k1, .str s1 t1⟩, ⟨h2, .ref k2, .str s2 t2⟩, ⟨h3, .ref k3, .str s3 t3⟩, ⟨h4, .ref k4, .str s4 t4⟩, ⟨h5, .ref k5, .str s5 t5⟩, ⟨h6, .ref k6, .str s6 t6⟩, ⟨h7, .ref k7, .str s7 t7⟩] nS, #[]⟩)
    (e0 : h0 = reduceHash (Builtin.Tuple.tupleHashOf (([0] : List Int).map hashInt))) (e1 : h1 = reduceHash (Builtin.Tuple.tupleHashOf (([1, 0] : List Int).map hashInt))) (e2 : h2 = reduceHash (Builtin.Tuple.tupleHashOf (([1, 1] : List Int).map hashInt))) (e3 : h3 = reduceHash (Builtin.Tuple.tupleHashOf (([1, 2, 1] : List Int).map hashInt))) (e4 : h4 = reduceHash (Builtin.Tuple.tupleHashOf (([1, 2, 2] : List Int).map hashInt))) (e5 : h5 = reduceHash (Builtin.Tuple.tupleHashOf (([1, 2, 1, 2] : List Int).map hashInt))) (e6 : h6 = reduceHash (Builtin.Tuple.tupleHashOf (([1, 2, 3, 2] : List Int).map hashInt))) (e7 : h7 = reduceHash (Builtin.Tuple.tupleHashOf (([1, 2, 3, 0] : List Int).map hashInt)))
    (q0 : K.lookup k0 = some ⟨.type "tuple", dd0, .seq #[.int 0 u0_0] n0, sl0⟩) (q1 : K.lookup k1 = some ⟨.type "tuple", dd1, .seq #[.int 1 u1_0, .int 0 u1_1] n1, sl1⟩) (q2 : K.lookup k2 = some ⟨.type "tuple", dd2, .seq #[.int 1 u2_0, .int 1 u2_1] n2, sl2⟩) (q3 : K.lookup k3 = some ⟨.type "tuple", dd3, .seq #[.int 1 u3_0, .int 2 u3_1, .int 1 u3_2] n3, sl3⟩) (q4 : K.lookup k4 = some ⟨.type "tuple", dd4, .seq #[.int 1 u4_0, .int 2 u4_1, .int 2 u4_2] n4, sl4⟩) (q5 : K.lookup k5 = some ⟨.type "tuple", dd5, .seq #[.int 1 u5_0, .int 2 u5_1, .int 1 u5_2, .int 2 u5_3] n5, sl5⟩) (q6 : K.lookup k6 = some ⟨.type "tuple", dd6, .seq #[.int 1 u6_0, .int 2 u6_1, .int 3 u6_2, .int 2 u6_3] n6, sl6⟩) (q7 : K.lookup k7 = some ⟨.type "tuple", dd7, .seq #[.int 1 u7_0, .int 2 u7_1, .int 3 u7_2, .int 0 u7_3] n7, sl7⟩) :
    Shp K aS [([0], k0, s0, t0), ([1, 0], k1, s1, t1), ([1, 1], k2, s2, t2), ([1, 2, 1], k3, s3, t3), ([1, 2, 2], k4, s4, t4), ([1, 2, 1, 2], k5, s5, t5), ([1, 2, 3, 2], k6, s6, t6), ([1, 2, 3, 0], k7, s7, t7)] := by
  refine ⟨ne, ⟨_, _, _, lS, ⟨rfl, rfl, rfl⟩, rfl, ?_⟩, ?_, by show K4.shp.Nodup; decide⟩
  · subst e0 e1 e2 e3 e4 e5 e6 e7
    rfl
  · intro x hx
    simp only [List.mem_cons, List.mem_nil_iff, or_false] at hx
    rcases hx with rfl | rfl | rfl | rfl | rfl | rfl | rfl | rfl
    · exact tup_ints q0 (by show 1 ≤ 1000; decide) (.cons ⟨_, rfl⟩ (.nil))
    · exact tup_ints q1 (by show 2 ≤ 1000; decide) (.cons ⟨_, rfl⟩ (.cons ⟨_, rfl⟩ (.nil)))
    · exact tup_ints q2 (by show 2 ≤ 1000; decide) (.cons ⟨_, rfl⟩ (.cons ⟨_, rfl⟩ (.nil)))
    · exact tup_ints q3 (by show 3 ≤ 1000; decide) (.cons ⟨_, rfl⟩ (.cons ⟨_, rfl⟩ (.cons ⟨_, rfl⟩ (.nil))))
    · exact tup_ints q4 (by show 3 ≤ 1000; decide) (.cons ⟨_, rfl⟩ (.cons ⟨_, rfl⟩ (.cons ⟨_, rfl⟩ (.nil))))
    · exact tup_ints q5 (by show 4 ≤ 1000; decide) (.cons ⟨_, rfl⟩ (.cons ⟨_, rfl⟩ (.cons ⟨_, rfl⟩ (.cons ⟨_, rfl⟩ (.nil)))))
    · exact tup_ints q6 (by show 4 ≤ 1000; decide) (.cons ⟨_, rfl⟩ (.cons ⟨_, rfl⟩ (.cons ⟨_, rfl⟩ (.cons ⟨_, rfl⟩ (.nil)))))
    · exact tup_ints q7 (by show 4 ≤ 1000; decide) (.cons ⟨_, rfl⟩ (.cons ⟨_, rfl⟩ (.cons ⟨_, rfl⟩ (.cons ⟨_, rfl⟩ (.nil)))))
theorem facts {l : PySem.W.OpenLaw} {w : World} {h : Heap} {fa : Addr} {f8 f9 f13 f14 f15 f18 f19 f20 f21 f22 f23 f24 f25 f26 f27 f28 f29 f31 f32 f33 f34 f35 f36 f37 f38 f39 f40 f41 f42 f43 f44 f45 f46 f47 : Addr} {d8 d9 d13 d14 d15 d18 d19 d20 d21 d22 d23 d24 d25 d26 d27 d28 d29 d31 d32 d33 d34 d35 d36 d37 d38 d39 d40 d41 d42 d43 d44 d45 d46 d47 : FuncData} (X : K.In h) (G : h.Ns mainGlobals mg) (hfa : mg "law" = some (.ref fa))
    (a8 : PySem.W.nsIn K mainGlobals "check_image" = some (some (.ref f8))) (F8 : Fun K "check_image" "check_image" (topS 8) f8 d8)
    (a9 : PySem.W.nsIn K mainGlobals "groups" = some (some (.ref f9))) (F9 : Fun K "groups" "groups" (topS 9) f9 d9)
    (a13 : PySem.W.nsIn K mainGlobals "_walk" = some (some (.ref f13))) (F13 : Fun K "_walk" "_walk" (topS 13) f13 d13)
    (a14 : PySem.W.nsIn K mainGlobals "form_of" = some (some (.ref f14))) (F14 : Fun K "form_of" "form_of" (topS 14) f14 d14)
    (a15 : PySem.W.nsIn K mainGlobals "pieces" = some (some (.ref f15))) (F15 : Fun K "pieces" "pieces" (topS 15) f15 d15)
    (a18 : PySem.W.nsIn K mainGlobals "choose" = some (some (.ref f18))) (F18 : Fun K "choose" "choose" (topS 18) f18 d18)
    (a19 : PySem.W.nsIn K mainGlobals "key_of" = some (some (.ref f19))) (F19 : Fun K "key_of" "key_of" (topS 19) f19 d19)
    (a20 : PySem.W.nsIn K mainGlobals "count_images" = some (some (.ref f20))) (F20 : Fun K "count_images" "count_images" (topS 20) f20 d20)
    (a21 : PySem.W.nsIn K mainGlobals "torn_counts" = some (some (.ref f21))) (F21 : Fun K "torn_counts" "torn_counts" (topS 21) f21 d21)
    (a22 : PySem.W.nsIn K mainGlobals "totals" = some (some (.ref f22))) (F22 : Fun K "totals" "totals" (topS 22) f22 d22)
    (a23 : PySem.W.nsIn K mainGlobals "_block" = some (some (.ref f23))) (F23 : Fun K "_block" "_block" (topS 23) f23 d23)
    (a24 : PySem.W.nsIn K mainGlobals "_names" = some (some (.ref f24))) (F24 : Fun K "_names" "_names" (topS 24) f24 d24)
    (a25 : PySem.W.nsIn K mainGlobals "_patterns" = some (some (.ref f25))) (F25 : Fun K "_patterns" "_patterns" (topS 25) f25 d25)
    (a26 : PySem.W.nsIn K mainGlobals "_set_number" = some (some (.ref f26))) (F26 : Fun K "_set_number" "_set_number" (topS 26) f26 d26)
    (a27 : PySem.W.nsIn K mainGlobals "_set_at" = some (some (.ref f27))) (F27 : Fun K "_set_at" "_set_at" (topS 27) f27 d27)
    (a28 : PySem.W.nsIn K mainGlobals "image_number" = some (some (.ref f28))) (F28 : Fun K "image_number" "image_number" (topS 28) f28 d28)
    (a29 : PySem.W.nsIn K mainGlobals "image_at" = some (some (.ref f29))) (F29 : Fun K "image_at" "image_at" (topS 29) f29 d29)
    (a31 : PySem.W.nsIn K mainGlobals "_law_bag" = some (some (.ref f31))) (F31 : Fun K "_law_bag" "_law_bag" (topS 31) f31 d31)
    (a32 : PySem.W.nsIn K mainGlobals "_law_take" = some (some (.ref f32))) (F32 : Fun K "_law_take" "_law_take" (topS 32) f32 d32)
    (a33 : PySem.W.nsIn K mainGlobals "_law_order" = some (some (.ref f33))) (F33 : Fun K "_law_order" "_law_order" (topS 33) f33 d33)
    (a34 : PySem.W.nsIn K mainGlobals "_law_wide" = some (some (.ref f34))) (F34 : Fun K "_law_wide" "_law_wide" (topS 34) f34 d34)
    (a35 : PySem.W.nsIn K mainGlobals "_law_pattern" = some (some (.ref f35))) (F35 : Fun K "_law_pattern" "_law_pattern" (topS 35) f35 d35)
    (a36 : PySem.W.nsIn K mainGlobals "_law_built" = some (some (.ref f36))) (F36 : Fun K "_law_built" "_law_built" (topS 36) f36 d36)
    (a37 : PySem.W.nsIn K mainGlobals "_law_in_all" = some (some (.ref f37))) (F37 : Fun K "_law_in_all" "_law_in_all" (topS 37) f37 d37)
    (a38 : PySem.W.nsIn K mainGlobals "_law_is" = some (some (.ref f38))) (F38 : Fun K "_law_is" "_law_is" (topS 38) f38 d38)
    (a39 : PySem.W.nsIn K mainGlobals "_law_joined" = some (some (.ref f39))) (F39 : Fun K "_law_joined" "_law_joined" (topS 39) f39 d39)
    (a40 : PySem.W.nsIn K mainGlobals "_law_orders" = some (some (.ref f40))) (F40 : Fun K "_law_orders" "_law_orders" (topS 40) f40 d40)
    (a41 : PySem.W.nsIn K mainGlobals "_law_has_form" = some (some (.ref f41))) (F41 : Fun K "_law_has_form" "_law_has_form" (topS 41) f41 d41)
    (a42 : PySem.W.nsIn K mainGlobals "_law_keys" = some (some (.ref f42))) (F42 : Fun K "_law_keys" "_law_keys" (topS 42) f42 d42)
    (a43 : PySem.W.nsIn K mainGlobals "_law_numbered" = some (some (.ref f43))) (F43 : Fun K "_law_numbered" "_law_numbered" (topS 43) f43 d43)
    (a44 : PySem.W.nsIn K mainGlobals "_law_refused" = some (some (.ref f44))) (F44 : Fun K "_law_refused" "_law_refused" (topS 44) f44 d44)
    (a45 : PySem.W.nsIn K mainGlobals "_law_road_back" = some (some (.ref f45))) (F45 : Fun K "_law_road_back" "_law_road_back" (topS 45) f45 d45)
    (a46 : PySem.W.nsIn K mainGlobals "_law_size" = some (some (.ref f46))) (F46 : Fun K "_law_size" "_law_size" (topS 46) f46 d46)
    (a47 : PySem.W.nsIn K mainGlobals "law" = some (some (.ref f47))) (F47 : Fun K "law" "law" (topS 47) f47 d47)
    {oc20 : Value} {od20 an20 : Option Addr} {dc20 pm20 cd20 ct20 : Value} {sl20 : Array (Option Value)} {D20 : Addr}
    (l20 : K.lookup f20 = some ⟨oc20, od20, .func (PySem.W.fnOf "count_images" "count_images" (defArgs (topS 20)) (defBody (topS 20)) (defScope (topS 20)) .none (.ref D20) dc20 pm20 an20 cd20 ct20), sl20⟩) (c20 : PySem.W.codeIn K cd20 "count_images" = true) (t20 : PySem.W.nsIn K D20 "torn" = some (some .none))
    (z_len : PySem.W.nsIn K mainGlobals "len" = some none)
    (z_range : PySem.W.nsIn K mainGlobals "range" = some none)
    (z_list : PySem.W.nsIn K mainGlobals "list" = some none)
    (z_tuple : PySem.W.nsIn K mainGlobals "tuple" = some none)
    (z_int : PySem.W.nsIn K mainGlobals "int" = some none)
    (z_sum : PySem.W.nsIn K mainGlobals "sum" = some none)
    (z_min : PySem.W.nsIn K mainGlobals "min" = some none)
    (z_max : PySem.W.nsIn K mainGlobals "max" = some none)
    (z_sorted : PySem.W.nsIn K mainGlobals "sorted" = some none)
    (z_enumerate : PySem.W.nsIn K mainGlobals "enumerate" = some none)
    (z_zip : PySem.W.nsIn K mainGlobals "zip" = some none)
    (z_divmod : PySem.W.nsIn K mainGlobals "divmod" = some none)
    (z_isinstance : PySem.W.nsIn K mainGlobals "isinstance" = some none)
    (z_bool : PySem.W.nsIn K mainGlobals "bool" = some none)
    (z_super : PySem.W.nsIn K mainGlobals "super" = some none) (z_comb : PySem.W.nsIn K mainGlobals "comb" = some (some (.builtin "math.comb"))) (z_perm : PySem.W.nsIn K mainGlobals "permutations" = some (some (.type "itertools.permutations")))
    {tL : Tok} {aF aS C M fI cda cc : Addr} (zL : PySem.W.nsIn K mainGlobals "LARGEST" = some (some (.int 4 tL))) (zF : PySem.W.nsIn K mainGlobals "FORM_COUNTS" = some (some (.ref aF))) (zS : PySem.W.nsIn K mainGlobals "SHAPES" = some (some (.ref aS)))
    {ddF : Option Addr} {slF : Array (Option Value)} {nF : Nat} {v0 v1 v2 v3 v4 : Tok} (lF : K.lookup aF = some ⟨.type "tuple", ddF, .seq #[.int 0 v0, .int 1 v1, .int 3 v2, .int 12 v3, .int 42 v4] nF, slF⟩)
    {shx : ShX} (shp0 : Shp K aS shx) (shk0 : shx.map (·.1) = K4.shp)
    (zC : PySem.W.nsIn K mainGlobals "InvalidNumber" = some (some (.ref C))) (zM : PySem.W.nsIn K mainGlobals "MendError" = some (some (.ref M)))
    {nm q : Str} {N : Addr} {bs : List Value} {sn : List Str} {sub : List Value} {ab : Bool} {col : Option Bool} {dd : Option Addr} {m0 m1 m2 m3 m5 : Option Value}
    (xL : K.lookup C = some (excClassObj nm q C N bs [.ref M, .type "ValueError", .type "Exception", .type "BaseException", .type "object"] true sn sub ab col dd m0 m1 m2 m3 m5 "ValueError.__new__"))
    (w1 : PySem.W.ownIn K "__init__" (.ref M) = some none) (w2 : PySem.W.ownIn K "__init__" (.type "ValueError") = some (some (.builtin "ValueError.__init__")))
    (sa : PySem.W.findIn K (.ref C) "__setattr__" = some (some (.builtin "object.__setattr__"))) (ga : PySem.W.findIn K (.ref C) "__getattribute__" = some (some (.builtin "BaseException.__getattribute__"))) (gg : PySem.W.findIn K (.ref C) "__getattr__" = some none) (nv : PySem.W.findIn K (.ref C) "value" = some none)
    (iI : PySem.W.findIn K (.ref C) "__init__" = some (some (.ref fI))) (tI : PySem.W.typeIn K (.ref fI) = some (.type "function")) (st : PySem.W.nsIn K cStatics "thirdparty.any" = some none) (sVE : PySem.W.subIn K (.ref C) (.type "ValueError") = some true) (sCm : PySem.W.mroIn K C (.ref C) = some true)
    (top : (l.prog.main.scope.names.lookup ("super" : Str)).isSome = false)
    {ocI : Value} {odI : Option Addr} {dcI pmI : Value} {anI : Option Addr} {ctI : Value} {slI : Array (Option Value)}
    (lI : K.lookup fI = some ⟨ocI, odI, .func (PySem.W.ksFn "__init__" "InvalidNumber.__init__" nA nB nS .none .none dcI pmI anI (.ref cda) ctI cc), slI⟩) (cI : PySem.W.codeIn K (.ref cda) "InvalidNumber.__init__" = true)
    {ccl : Value} {cdd : Option Addr} {vs : Array Value} {ccs : Array (Option Value)} {file : Str} {tf : Tok} (lc : K.lookup cda = some ⟨ccl, cdd, .fields vs, ccs⟩) (hvs : vs[2]? = some (.str file tf)) (hfile : ((l.prog.main.file : Str) == file) = true)
    {cl : Value} {cld : Option Addr} {csl : Array (Option Value)} (lcc : K.lookup cc = some ⟨cl, cld, .cell (some (.ref C)), csl⟩)
    (kC : PySem.W.keepIn K (.ref C) = true) (eC : PySem.W.subIn K (.ref C) (.type "BaseException") = some true) (tC : PySem.W.typeIn K (.ref C) = some (.type "type")) (hC : PySem.W.hasDictIn K C = true) (iC : PySem.W.isClsIn K C = true) (sC : PySem.W.subIn K (.ref C) (.ref C) = some true)
    (iM : PySem.W.isClsIn K M = true) (tM : PySem.W.typeIn K (.ref M) = some (.type "type")) (sM : PySem.W.subIn K (.ref C) (.ref M) = some true)
    (x1 : PySem.W.findIn K (.ref C) "__class__" = some (some (.builtin "object.__class__"))) (x2 : PySem.W.specialIn K (.builtin "object.__class__") "__get__" = some (some (.builtin "getset_descriptor.__get__"))) (x3 : PySem.W.takesIn K (.builtin "object.__class__") = some true) (x4 : PySem.W.mroIn K C (.type "object") = some true) :
    ∃ fd : FuncData, (∀ (s : Shared) (v : Value), BindsTo s fd ⟨[v], []⟩ [("_law_script", v)]) ∧ ∀ base : Heap, K.In base → base.Ns mainGlobals mg → FnOk l.prog w K mg base CX0 7 fa fd ["_law_script"] (spLaw K) := by
  have e := hfa.symm.trans (PySem.W.mg_of X G a47)
  cases e
  have T : Txt K mg (adOf [0, 0, 0, 0, 0, 0, 0, 0, f8, f9, 0, 0, 0, f13, f14, f15, 0, 0, f18, f19, f20, f21, f22, f23, f24, f25, f26, f27, f28, f29, 0, f31, f32, f33, f34, f35, f36, f37, f38, f39, f40, f41, f42, f43, f44, f45, f46, fa] [d47, d47, d47, d47, d47, d47, d47, d47, d8, d9, d47, d47, d47, d13, d14, d15, d47, d47, d18, d19, d20, d21, d22, d23, d24, d25, d26, d27, d28, d29, d47, d31, d32, d33, d34, d35, d36, d37, d38, d39, d40, d41, d42, d43, d44, d45, d46, d47] d47 tL aF aS C M shx) := {
    n_len := PySem.W.mg_none_of X G z_len,
    n_range := PySem.W.mg_none_of X G z_range,
    n_list := PySem.W.mg_none_of X G z_list,
    n_tuple := PySem.W.mg_none_of X G z_tuple,
    n_int := PySem.W.mg_none_of X G z_int,
    n_sum := PySem.W.mg_none_of X G z_sum,
    n_min := PySem.W.mg_none_of X G z_min,
    n_max := PySem.W.mg_none_of X G z_max,
    n_sorted := PySem.W.mg_none_of X G z_sorted,
    n_enumerate := PySem.W.mg_none_of X G z_enumerate,
    n_zip := PySem.W.mg_none_of X G z_zip,
    n_divmod := PySem.W.mg_none_of X G z_divmod,
    n_isinstance := PySem.W.mg_none_of X G z_isinstance,
    n_bool := PySem.W.mg_none_of X G z_bool,
    m_comb := PySem.W.mg_of X G z_comb,
    m_permutations := PySem.W.mg_of X G z_perm,
    mLARGEST := PySem.W.mg_of X G zL,
    mFORM := PySem.W.mg_of X G zF,
    form := fun H => .inr ⟨_, _, _, lF, rfl, rfl, by rw [sizeLine_eq]; show 5 ≤ 16777216; decide, .cons ⟨_, rfl⟩ (.cons ⟨_, rfl⟩ (.cons ⟨_, rfl⟩ (.cons ⟨_, rfl⟩ (.cons ⟨_, rfl⟩ .nil))))⟩,
    mSHAPES := PySem.W.mg_of X G zS,
    shp := shp0,
    shk := shk0,
    m_check_image := PySem.W.mg_of X G a8,
    f_check_image := F8,
    m_groups := PySem.W.mg_of X G a9,
    f_groups := F9,
    m_walk := PySem.W.mg_of X G a13,
    f_walk := F13,
    m_form_of := PySem.W.mg_of X G a14,
    f_form_of := F14,
    m_pieces := PySem.W.mg_of X G a15,
    f_pieces := F15,
    m_choose := PySem.W.mg_of X G a18,
    f_choose := F18,
    m_key_of := PySem.W.mg_of X G a19,
    f_key_of := F19,
    m_count_images := PySem.W.mg_of X G a20,
    f_count_images := F20,
    m_torn_counts := PySem.W.mg_of X G a21,
    f_torn_counts := F21,
    m_totals := PySem.W.mg_of X G a22,
    f_totals := F22,
    m_block := PySem.W.mg_of X G a23,
    f_block := F23,
    m_names := PySem.W.mg_of X G a24,
    f_names := F24,
    m_patterns := PySem.W.mg_of X G a25,
    f_patterns := F25,
    m_set_number := PySem.W.mg_of X G a26,
    f_set_number := F26,
    m_set_at := PySem.W.mg_of X G a27,
    f_set_at := F27,
    m_image_number := PySem.W.mg_of X G a28,
    f_image_number := F28,
    m_image_at := PySem.W.mg_of X G a29,
    f_image_at := F29,
    m_law_bag := PySem.W.mg_of X G a31,
    f_law_bag := F31,
    m_law_take := PySem.W.mg_of X G a32,
    f_law_take := F32,
    m_law_order := PySem.W.mg_of X G a33,
    f_law_order := F33,
    m_law_wide := PySem.W.mg_of X G a34,
    f_law_wide := F34,
    m_law_pattern := PySem.W.mg_of X G a35,
    f_law_pattern := F35,
    m_law_built := PySem.W.mg_of X G a36,
    f_law_built := F36,
    m_law_in_all := PySem.W.mg_of X G a37,
    f_law_in_all := F37,
    m_law_is := PySem.W.mg_of X G a38,
    f_law_is := F38,
    m_law_joined := PySem.W.mg_of X G a39,
    f_law_joined := F39,
    m_law_orders := PySem.W.mg_of X G a40,
    f_law_orders := F40,
    m_law_has_form := PySem.W.mg_of X G a41,
    f_law_has_form := F41,
    m_law_keys := PySem.W.mg_of X G a42,
    f_law_keys := F42,
    m_law_numbered := PySem.W.mg_of X G a43,
    f_law_numbered := F43,
    m_law_refused := PySem.W.mg_of X G a44,
    f_law_refused := F44,
    m_law_road_back := PySem.W.mg_of X G a45,
    f_law_road_back := F45,
    m_law_size := PySem.W.mg_of X G a46,
    f_law_size := F46,
    m_law := PySem.W.mg_of X G a47,
    f_law := F47 }
  have U : MadeC l.prog K mg C fI := ⟨⟨nm, q, N, bs, _, sn, sub, ab, col, dd, m0, m1, m2, m3, m5, xL, by rfl, base_up w1 w2⟩, sa, nv, iI, tI, st, sVE, sCm, PySem.W.mg_none_of X G z_super, top,
    ⟨_, _, _, _, _, _, _, cda, cc, lI, cI, ⟨_, _, vs, _, file, tf, lc, hvs, hfile⟩, ⟨_, _, _, lcc⟩⟩⟩
  have ed : d20 = PySem.W.fnOf "count_images" "count_images" (defArgs (topS 20)) (defBody (topS 20)) (defScope (topS 20)) .none (.ref D20) dc20 pm20 an20 cd20 ct20 := by
    obtain ⟨oc, od, kV', doc, pm, an, cdv, ct, osl, _, lk, _⟩ := F20.ex
    rw [l20] at lk
    have y := Option.some.inj lk
    have y2 := congrArg Obj.data y
    exact (Data.func.inj y2).symm
  have DD : FunD K "count_images" "count_images" (defArgs (topS 20)) (defBody (topS 20)) (defScope (topS 20)) [] [("torn", .non)] f20 d20 := by
    subst ed
    refine ⟨⟨_, _, _, _, _, _, _, _, _, _, rfl, l20, c20, .inl ⟨rfl, rfl⟩, .inr ⟨D20, rfl, ?_⟩⟩, F20.kp⟩
    intro p hp
    simp only [List.mem_cons, List.mem_nil_iff, or_false] at hp
    subst hp
    exact ⟨_, t20, rfl⟩
  refine ⟨d47, fun s v => ?_, fun base _ _ => ?_⟩
  · obtain ⟨oc, od, kV', doc, pm, an, cdv, ct, osl, rfl, _, _⟩ := F47.ex
    exact .of_eq rfl
  · have V : InvC l.prog w K mg base C := ⟨PySem.W.mg_of X G zC, kC, eC, tC, ga, gg, nv, hC, exm_own eC iC tC sC, madeN U⟩
    exact G_law (a := adOf [0, 0, 0, 0, 0, 0, 0, 0, f8, f9, 0, 0, 0, f13, f14, f15, 0, 0, f18, f19, f20, f21, f22, f23, f24, f25, f26, f27, f28, f29, 0, f31, f32, f33, f34, f35, f36, f37, f38, f39, f40, f41, f42, f43, f44, f45, f46, fa] [d47, d47, d47, d47, d47, d47, d47, d47, d8, d9, d47, d47, d47, d13, d14, d15, d47, d47, d18, d19, d20, d21, d22, d23, d24, d25, d26, d27, d28, d29, d47, d31, d32, d33, d34, d35, d36, d37, d38, d39, d40, d41, d42, d43, d44, d45, d46, d47] d47 tL aF aS C M shx) { t := T, d := DD, c := V, mM := PySem.W.mg_of X G zM, isM := kit_up iM tM sM, ex := ⟨ga, gg, eC, hC, x1, x2, x3, x4⟩, cl := iC }
theorem walk {l : PySem.W.OpenLaw} {q : Program} {loose : List Str} {XP : (Str → Option Value) → Heap → Prop} {YP : World → Heap → Prop} {d : DefRec} {K : Params → PySem.W.Frag} (hn : l.most = some 63) (hdf : d.params.defaults = [])
    (hY : ∀ (w : World) (h : Heap), YP w h → (K w.params).In h)
    (F : ∀ (w : World) (mg : Str → Option Value) (fa : Addr) (h : Heap), (K w.params).In h → h.Ns mainGlobals mg → mg d.name = some (.ref fa) →
      ∃ fd : FuncData, (∀ (s : Shared) (u : Value), BindsTo s fd ⟨[u], []⟩ [("_law_script", u)]) ∧ ∀ base : Heap, (K w.params).In base → base.Ns mainGlobals mg → FnOk l.prog w (K w.params) mg base CX0 7 fa fd ["_law_script"] (spLaw (K w.params))) :
    PySem.W.WalkO q loose XP YP l.row.toRowW d [] (fun f vs => PySem.call f vs) :=
  L2.walk_of (n := 63) (k := 7) (x := "_law_script") (CX := fun _ => CX0) (sp := fun w => spLaw (K w.params)) hn (by decide) hdf ⟨rfl, by decide, by decide⟩ hY F (fun _ _ a ns _ _ hS => ⟨a, ns, rfl, hS, fun _ => rfl⟩) fun _ _ _ _ _ z => z
end
end K4
end
open PySem PySem.W PyProof.Rows
set_option maxRecDepth 100000 in
set_option maxHeartbeats 0 in
theorem PySem.Challenge.cw_peermend_k04_whole_numbering_holds : PySem.Challenge.rw_peermend_k04_whole_numbering.Holds := by
  w_on; o_law; k_head; (case hw => w_witness2)
  k_fill
  refine K4.walk (l := PySem.Challenge.rw_peermend_k04_whole_numbering) rfl rfl (fun w h Y => PySem.W.kIn_of Y) ?F
  case F =>
    intro w mg fa h KX G hmg
    refine' K4.facts KX G hmg
      ?a8 ?F8 ?a9 ?F9 ?a13 ?F13 ?a14 ?F14 ?a15 ?F15 ?a18 ?F18 ?a19 ?F19 ?a20 ?F20 ?a21 ?F21 ?a22 ?F22 ?a23 ?F23 ?a24 ?F24 ?a25 ?F25 ?a26 ?F26 ?a27 ?F27 ?a28 ?F28 ?a29 ?F29 ?a31 ?F31 ?a32 ?F32 ?a33 ?F33 ?a34 ?F34 ?a35 ?F35 ?a36 ?F36 ?a37 ?F37 ?a38 ?F38 ?a39 ?F39 ?a40 ?F40 ?a41 ?F41 ?a42 ?F42 ?a43 ?F43 ?a44 ?F44 ?a45 ?F45 ?a46 ?F46 ?a47 ?F47 ?l20 ?c20 ?t20 ?z_len ?z_range ?z_list ?z_tuple ?z_int ?z_sum ?z_min ?z_max ?z_sorted ?z_enumerate ?z_zip ?z_divmod ?z_isinstance ?z_bool ?z_super ?z_comb ?z_perm ?zL ?zF ?zS ?lF ?shp0 ?shk0 ?zC ?zM ?xL ?w1 ?w2 ?sa ?ga ?gg ?nv ?iI ?tI ?st ?sVE ?sCm ?top ?lI ?cI ?lc ?hvs ?hfile ?lcc ?kC ?eC ?tC ?hC ?iC ?sC ?iM ?tM ?sM ?x1 ?x2 ?x3 ?x4
    (case a8 => k_is)
    (case F8 => refine' L2.fun_mk ?l ?c ?k; (case l => k_is); (case c => k_is); (case k => k_is))
    (case a9 => k_is)
    (case F9 => refine' L2.fun_mk ?l ?c ?k; (case l => k_is); (case c => k_is); (case k => k_is))
    (case a13 => k_is)
    (case F13 => refine' L2.fun_mk ?l ?c ?k; (case l => k_is); (case c => k_is); (case k => k_is))
    (case a14 => k_is)
    (case F14 => refine' L2.fun_mk ?l ?c ?k; (case l => k_is); (case c => k_is); (case k => k_is))
    (case a15 => k_is)
    (case F15 => refine' L2.fun_mk ?l ?c ?k; (case l => k_is); (case c => k_is); (case k => k_is))
    (case a18 => k_is)
    (case F18 => refine' L2.fun_mk ?l ?c ?k; (case l => k_is); (case c => k_is); (case k => k_is))
    (case a19 => k_is)
    (case F19 => refine' L2.fun_mk ?l ?c ?k; (case l => k_is); (case c => k_is); (case k => k_is))
    (case a20 => k_is)
    (case F20 => refine' L2.fun_mk ?l ?c ?k; (case l => k_is); (case c => k_is); (case k => k_is))
    (case a21 => k_is)
    (case F21 => refine' L2.fun_mk ?l ?c ?k; (case l => k_is); (case c => k_is); (case k => k_is))
    (case a22 => k_is)
    (case F22 => refine' L2.fun_mk ?l ?c ?k; (case l => k_is); (case c => k_is); (case k => k_is))
    (case a23 => k_is)
    (case F23 => refine' L2.fun_mk ?l ?c ?k; (case l => k_is); (case c => k_is); (case k => k_is))
    (case a24 => k_is)
    (case F24 => refine' L2.fun_mk ?l ?c ?k; (case l => k_is); (case c => k_is); (case k => k_is))
    (case a25 => k_is)
    (case F25 => refine' L2.fun_mk ?l ?c ?k; (case l => k_is); (case c => k_is); (case k => k_is))
    (case a26 => k_is)
    (case F26 => refine' L2.fun_mk ?l ?c ?k; (case l => k_is); (case c => k_is); (case k => k_is))
    (case a27 => k_is)
    (case F27 => refine' L2.fun_mk ?l ?c ?k; (case l => k_is); (case c => k_is); (case k => k_is))
    (case a28 => k_is)
    (case F28 => refine' L2.fun_mk ?l ?c ?k; (case l => k_is); (case c => k_is); (case k => k_is))
    (case a29 => k_is)
    (case F29 => refine' L2.fun_mk ?l ?c ?k; (case l => k_is); (case c => k_is); (case k => k_is))
    (case a31 => k_is)
    (case F31 => refine' L2.fun_mk ?l ?c ?k; (case l => k_is); (case c => k_is); (case k => k_is))
    (case a32 => k_is)
    (case F32 => refine' L2.fun_mk ?l ?c ?k; (case l => k_is); (case c => k_is); (case k => k_is))
    (case a33 => k_is)
    (case F33 => refine' L2.fun_mk ?l ?c ?k; (case l => k_is); (case c => k_is); (case k => k_is))
    (case a34 => k_is)
    (case F34 => refine' L2.fun_mk ?l ?c ?k; (case l => k_is); (case c => k_is); (case k => k_is))
    (case a35 => k_is)
    (case F35 => refine' L2.fun_mk ?l ?c ?k; (case l => k_is); (case c => k_is); (case k => k_is))
    (case a36 => k_is)
    (case F36 => refine' L2.fun_mk ?l ?c ?k; (case l => k_is); (case c => k_is); (case k => k_is))
    (case a37 => k_is)
    (case F37 => refine' L2.fun_mk ?l ?c ?k; (case l => k_is); (case c => k_is); (case k => k_is))
    (case a38 => k_is)
    (case F38 => refine' L2.fun_mk ?l ?c ?k; (case l => k_is); (case c => k_is); (case k => k_is))
    (case a39 => k_is)
    (case F39 => refine' L2.fun_mk ?l ?c ?k; (case l => k_is); (case c => k_is); (case k => k_is))
    (case a40 => k_is)
    (case F40 => refine' L2.fun_mk ?l ?c ?k; (case l => k_is); (case c => k_is); (case k => k_is))
    (case a41 => k_is)
    (case F41 => refine' L2.fun_mk ?l ?c ?k; (case l => k_is); (case c => k_is); (case k => k_is))
    (case a42 => k_is)
    (case F42 => refine' L2.fun_mk ?l ?c ?k; (case l => k_is); (case c => k_is); (case k => k_is))
    (case a43 => k_is)
    (case F43 => refine' L2.fun_mk ?l ?c ?k; (case l => k_is); (case c => k_is); (case k => k_is))
    (case a44 => k_is)
    (case F44 => refine' L2.fun_mk ?l ?c ?k; (case l => k_is); (case c => k_is); (case k => k_is))
    (case a45 => k_is)
    (case F45 => refine' L2.fun_mk ?l ?c ?k; (case l => k_is); (case c => k_is); (case k => k_is))
    (case a46 => k_is)
    (case F46 => refine' L2.fun_mk ?l ?c ?k; (case l => k_is); (case c => k_is); (case k => k_is))
    (case a47 => k_is)
    (case F47 => refine' L2.fun_mk ?l ?c ?k; (case l => k_is); (case c => k_is); (case k => k_is))
    (case l20 => k_is)
    (case c20 => k_is)
    (case t20 => k_is)
    (case z_len => k_is)
    (case z_range => k_is)
    (case z_list => k_is)
    (case z_tuple => k_is)
    (case z_int => k_is)
    (case z_sum => k_is)
    (case z_min => k_is)
    (case z_max => k_is)
    (case z_sorted => k_is)
    (case z_enumerate => k_is)
    (case z_zip => k_is)
    (case z_divmod => k_is)
    (case z_isinstance => k_is)
    (case z_bool => k_is)
    (case z_super => k_is)
    (case z_comb => k_is)
    (case z_perm => k_is)
    (case zL => k_is)
    (case zF => k_is)
    (case zS => k_is)
    (case lF => k_is)
    (case shp0 => refine' K4.shp_mk ?ne ?lS ?e0 ?e1 ?e2 ?e3 ?e4 ?e5 ?e6 ?e7 ?q0 ?q1 ?q2 ?q3 ?q4 ?q5 ?q6 ?q7; (case ne => rfl); (case lS => k_is); (case q0 => k_is); (case q1 => k_is); (case q2 => k_is); (case q3 => k_is); (case q4 => k_is); (case q5 => k_is); (case q6 => k_is); (case q7 => k_is); (case e0 => kernel_rfl); (case e1 => kernel_rfl); (case e2 => kernel_rfl); (case e3 => kernel_rfl); (case e4 => kernel_rfl); (case e5 => kernel_rfl); (case e6 => kernel_rfl); (case e7 => kernel_rfl))
    (case shk0 => rfl)
    (case zC => k_is)
    (case zM => k_is)
    (case xL => k_is)
    (case w1 => first | kernel_rfl | rfl | k_is)
    (case w2 => first | kernel_rfl | rfl | k_is)
    (case sa => k_is)
    (case ga => k_is)
    (case gg => k_is)
    (case nv => k_is)
    (case iI => k_is)
    (case tI => k_is)
    (case st => k_is)
    (case sVE => k_is)
    (case sCm => k_is)
    (case top => first | rfl | decide +kernel | kernel_rfl)
    (case lI => k_is)
    (case cI => k_is)
    (case lc => k_is)
    (case hvs => rfl)
    (case hfile => first | rfl | decide +kernel | kernel_rfl)
    (case lcc => k_is)
    (case kC => k_is)
    (case eC => k_is)
    (case tC => k_is)
    (case hC => k_is)
    (case iC => k_is)
    (case sC => first | k_is | rfl)
    (case iM => k_is)
    (case tM => k_is)
    (case sM => k_is)
    (case x1 => k_is)
    (case x2 => k_is)
    (case x3 => k_is)
    (case x4 => k_is)
