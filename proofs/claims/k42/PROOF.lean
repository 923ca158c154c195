import PyProof.Rows.All
import Wide.All
import OpenK.AllK
import Wide.FinOn
import HandS.ForMost
import HandS.Exc
import HandS.ExcOwn
import HandS.TryOnly
import HandS.ExcInit
import HandS.WordsExc
import HandS.RaiseMore
import HandS.IsInst
import HandS.WideBits
import HandS.Style
import HandS.Defaults
import HandS.ClsMeth
import KE.KTupSum
import PyProof.ReprRoads
import PyProof.ReprLen
import HandS.Codes
import KE.KEqSeq
import PySem.Challenge.RW_flutterheld_k42_whole_each_number_one_bo
set_option Elab.async false
set_option linter.all false
set_option maxRecDepth 100000
set_option maxHeartbeats 8000000
/-! The plain mathematics of law k42: how many rows of runs from lo to K have n cells, the number of such a row, the ends. Core Lean alone. -/
namespace K42
/-! ### sums -/
def sumTo (f : Nat → Nat) : Nat → Nat
  | 0 => 0
  | m + 1 => sumTo f m + f m
theorem sumTo_congr {f g : Nat → Nat} : ∀ {m : Nat}, (∀ i, i < m → f i = g i) → sumTo f m = sumTo g m
  | 0, _ => rfl
  | m + 1, h => by
    show sumTo f m + f m = sumTo g m + g m
    rw [sumTo_congr fun i hi => h i (by omega), h m (by omega)]
theorem sumTo_head (f : Nat → Nat) : ∀ m, sumTo f (m + 1) = f 0 + sumTo (fun i => f (i + 1)) m
  | 0 => by
    show 0 + f 0 = f 0 + 0
    omega
  | m + 1 => by
    show sumTo f (m + 1) + f (m + 1) = f 0 + (sumTo (fun i => f (i + 1)) m + f (m + 1))
    rw [sumTo_head f m]
    omega
theorem sumTo_rev (f : Nat → Nat) : ∀ m, sumTo (fun j => f (m - 1 - j)) m = sumTo f m
  | 0 => rfl
  | m + 1 => by
    rw [sumTo_head]
    have e : sumTo (fun i => f (m + 1 - 1 - (i + 1))) m = sumTo (fun j => f (m - 1 - j)) m :=
      sumTo_congr fun i hi => congrArg f (by omega)
    show f (m + 1 - 1 - 0) + _ = sumTo f m + f m
    rw [e, sumTo_rev f m]
    show f m + sumTo f m = _
    omega
theorem sumTo_mono (f : Nat → Nat) {a : Nat} : ∀ {b : Nat}, a ≤ b → sumTo f a ≤ sumTo f b
  | 0, h => by
    obtain rfl : a = 0 := by omega
    exact Nat.le_refl _
  | b + 1, h => by
    by_cases e : a = b + 1
    · rw [e]
      exact Nat.le_refl _
    · have := sumTo_mono f (a := a) (b := b) (by omega)
      show sumTo f a ≤ sumTo f b + f b
      omega
theorem sumTo_zero {f : Nat → Nat} : ∀ {m : Nat}, (∀ i, i < m → f i = 0) → sumTo f m = 0
  | 0, _ => rfl
  | m + 1, h => by
    show sumTo f m + f m = 0
    rw [sumTo_zero fun i hi => h i (by omega), h m (by omega)]
theorem sumTo_pos {f : Nat → Nat} : ∀ {m : Nat}, 0 < sumTo f m → ∃ i, i < m ∧ 0 < f i
  | 0, h => absurd h (Nat.lt_irrefl 0)
  | m + 1, h => by
    by_cases e : 0 < f m
    · exact ⟨m, by omega, e⟩
    · have h' : 0 < sumTo f m + f m := h
      obtain ⟨i, hi, hp⟩ := sumTo_pos (f := f) (m := m) (by omega)
      exact ⟨i, by omega, hp⟩
theorem sumTo_tail {f : Nat → Nat} {a : Nat} : ∀ {b : Nat}, a ≤ b → (∀ i, a ≤ i → i < b → f i = 0) → sumTo f b = sumTo f a
  | 0, h, _ => by
    obtain rfl : a = 0 := by omega
    rfl
  | b + 1, h, hz => by
    by_cases e : a = b + 1
    · rw [e]
    · show sumTo f b + f b = _
      rw [hz b (by omega) (by omega), sumTo_tail (by omega) fun i h1 h2 => hz i h1 (by omega)]
      rfl
theorem map_range_sum (f : Nat → Nat) : ∀ m, ((List.range m).map f).sum = sumTo f m
  | 0 => rfl
  | m + 1 => by
    rw [List.range_succ, List.map_append, List.sum_append, map_range_sum f m]
    show _ + (f m + 0) = _ + f m
    omega
/-- a list is what its places hold -/
theorem eq_map_range {l : List Nat} {f : Nat → Nat} {m : Nat} (hl : l.length = m) (h : ∀ i, i < m → l[i]? = some (f i)) : l = (List.range m).map f := by
  refine List.ext_getElem? fun i => ?_
  by_cases hi : i < m
  · rw [h i hi, List.getElem?_map, List.getElem?_range hi]
    rfl
  · rw [List.getElem?_eq_none (by omega), List.getElem?_eq_none (by rw [List.length_map, List.length_range]; omega)]

/-! ### counts -/
/-- how many runs there are to choose from ahead of n cells -/
def wide (lo K n : Nat) : Nat := min K n + 1 - lo
def cl (lo K : Nat) : Nat → List Nat
  | 0 => [1]
  | n + 1 => cl lo K n ++ [sumTo (fun j => (cl lo K n).getD (n + 1 - (lo + j)) 0) (wide lo K (n + 1))]
def cnt (lo K n : Nat) : Nat := (cl lo K n).getD n 0
theorem cl_len (lo K : Nat) : ∀ n, (cl lo K n).length = n + 1
  | 0 => rfl
  | n + 1 => by
    show (cl lo K n ++ [_]).length = _
    rw [List.length_append, cl_len lo K n]
    rfl
theorem cl_at (lo K : Nat) {i : Nat} : ∀ {n : Nat}, i ≤ n → (cl lo K n)[i]? = some (cnt lo K i)
  | 0, h => by
    obtain rfl : i = 0 := by omega
    rfl
  | n + 1, h => by
    by_cases e : i = n + 1
    · subst e
      have hl : n + 1 < (cl lo K (n + 1)).length := by rw [cl_len]; omega
      unfold cnt
      rw [List.getD_eq_getElem?_getD, List.getElem?_eq_getElem hl]
      rfl
    · show (cl lo K n ++ [_])[i]? = _
      rw [List.getElem?_append_left (by rw [cl_len]; omega)]
      exact cl_at lo K (by omega)
theorem cl_getD (lo K : Nat) {i n : Nat} (h : i ≤ n) : (cl lo K n).getD i 0 = cnt lo K i := by
  rw [List.getD_eq_getElem?_getD, cl_at lo K h]
  rfl
theorem cnt_zero (lo K : Nat) : cnt lo K 0 = 1 := rfl
/-- the first j runs' share -/
def part (lo K n j : Nat) : Nat := sumTo (fun i => cnt lo K (n - (lo + i))) j
theorem part_succ (lo K n j : Nat) : part lo K n (j + 1) = part lo K n j + cnt lo K (n - (lo + j)) := rfl
theorem part_mono (lo K n : Nat) {a b : Nat} (h : a ≤ b) : part lo K n a ≤ part lo K n b := sumTo_mono _ h
theorem cl_next (lo K n : Nat) (hlo : 1 ≤ lo) : cl lo K (n + 1) = cl lo K n ++ [part lo K (n + 1) (wide lo K (n + 1))] := by
  show cl lo K n ++ [_] = _
  refine congrArg (fun x => cl lo K n ++ [x]) (sumTo_congr fun j _ => ?_)
  exact cl_getD lo K (by omega)
theorem cnt_succ (lo K n : Nat) (hlo : 1 ≤ lo) : cnt lo K (n + 1) = part lo K (n + 1) (wide lo K (n + 1)) := by
  have h := cl_at lo K (i := n + 1) (n := n + 1) (Nat.le_refl _)
  rw [cl_next lo K n hlo, List.getElem?_append_right (by rw [cl_len]; omega), cl_len, Nat.sub_self] at h
  exact (Option.some.inj h).symm
theorem cnt_part (lo K : Nat) {n : Nat} (hlo : 1 ≤ lo) (hn : 1 ≤ n) : cnt lo K n = part lo K n (wide lo K n) := by
  obtain ⟨m, rfl⟩ : ∃ m, n = m + 1 := ⟨n - 1, by omega⟩
  exact cnt_succ lo K m hlo
/-- a slice of the counts, added up -/
theorem slice_sum (lo K n : Nat) {a m : Nat} (h : a + m ≤ n + 1) : (((cl lo K n).drop a).take m).sum = sumTo (fun i => cnt lo K (a + i)) m := by
  have hl : (((cl lo K n).drop a).take m).length = m := by
    rw [List.length_take, List.length_drop, cl_len]
    omega
  rw [eq_map_range (f := fun i => cnt lo K (a + i)) hl fun i hi => ?_, map_range_sum]
  rw [List.getElem?_take_of_lt hi, List.getElem?_drop]
  exact cl_at lo K (by omega)
/-- what the program adds up for n + 1 cells -/
theorem prog_sum (lo K n : Nat) (hlo : 1 ≤ lo) (hK : lo ≤ K) : (((cl lo K n).drop (n + 1 - K)).take ((n + 2 - lo) - (n + 1 - K))).sum = part lo K (n + 1) (wide lo K (n + 1)) := by
  rw [slice_sum lo K n (by omega)]
  have ew : n + 2 - lo - (n + 1 - K) = wide lo K (n + 1) := by
    unfold wide
    omega
  rw [ew, ← sumTo_rev]
  refine sumTo_congr fun j hj => congrArg (cnt lo K) ?_
  unfold wide at hj ⊢
  omega

/-! ### rows and their numbers -/
def Valid (lo K : Nat) : Nat → List Nat → Prop
  | n, [] => n = 0
  | n, r :: b => lo ≤ r ∧ r ≤ K ∧ r ≤ n ∧ Valid lo K (n - r) b
def rank (lo K : Nat) : Nat → List Nat → Nat
  | _, [] => 0
  | n, r :: b => part lo K n (r - lo) + rank lo K (n - r) b
theorem part_top (lo K : Nat) {n j : Nat} (hlo : 1 ≤ lo) (hn : 1 ≤ n) (hj : j ≤ wide lo K n) : part lo K n j ≤ cnt lo K n := by
  rw [cnt_part lo K hlo hn]
  exact part_mono lo K n hj
theorem rank_lt {lo K : Nat} (hlo : 1 ≤ lo) : ∀ {b : List Nat} {n : Nat}, Valid lo K n b → rank lo K n b < cnt lo K n
  | [], n, h => by
    have h' : n = 0 := h
    rw [h']
    exact Nat.one_pos
  | r :: b, n, h => by
    obtain ⟨h1, h2, h3, h4⟩ := h
    have ih := rank_lt hlo h4
    have e : part lo K n (r - lo + 1) = part lo K n (r - lo) + cnt lo K (n - r) := by
      rw [part_succ, show lo + (r - lo) = r by omega]
    have q := part_top lo K (n := n) (j := r - lo + 1) hlo (by omega) (by unfold wide; omega)
    show part lo K n (r - lo) + rank lo K (n - r) b < _
    omega
theorem rank_head {lo K : Nat} (hlo : 1 ≤ lo) {b b' : List Nat} {n r r' : Nat} (h : Valid lo K n (r :: b)) (h' : Valid lo K n (r' :: b')) (hr : r < r') : rank lo K n (r :: b) < rank lo K n (r' :: b') := by
  obtain ⟨h1, h2, h3, h4⟩ := h
  obtain ⟨k1, k2, k3, k4⟩ := h'
  have ih := rank_lt hlo h4
  have e : part lo K n (r - lo + 1) = part lo K n (r - lo) + cnt lo K (n - r) := by
    rw [part_succ, show lo + (r - lo) = r by omega]
  have q := part_mono lo K n (a := r - lo + 1) (b := r' - lo) (by omega)
  show part lo K n (r - lo) + rank lo K (n - r) b < part lo K n (r' - lo) + rank lo K (n - r') b'
  omega
theorem rank_inj {lo K : Nat} (hlo : 1 ≤ lo) : ∀ {b b' : List Nat} {n : Nat}, Valid lo K n b → Valid lo K n b' → rank lo K n b = rank lo K n b' → b = b'
  | [], [], _, _, _, _ => rfl
  | [], r :: b, n, h, h', _ => by
    obtain ⟨k1, _, k3, _⟩ := h'
    have h0 : n = 0 := h
    omega
  | r :: b, [], n, h, h', _ => by
    obtain ⟨k1, _, k3, _⟩ := h
    have h0 : n = 0 := h'
    omega
  | r :: b, r' :: b', n, h, h', e => by
    by_cases c1 : r < r'
    · have := rank_head hlo h h' c1
      omega
    by_cases c2 : r' < r
    · have := rank_head hlo h' h c2
      omega
    obtain rfl : r = r' := by omega
    have e' : part lo K n (r - lo) + rank lo K (n - r) b = part lo K n (r - lo) + rank lo K (n - r) b' := e
    rw [rank_inj hlo h.2.2.2 h'.2.2.2 (by omega)]
theorem valid_sum {lo K : Nat} : ∀ {b : List Nat} {n : Nat}, Valid lo K n b → b.sum = n
  | [], n, h => (show n = 0 from h).symm
  | r :: b, n, h => by
    obtain ⟨_, _, h3, h4⟩ := h
    rw [List.sum_cons, valid_sum h4]
    omega
theorem valid_runs {lo K : Nat} : ∀ {b : List Nat} {n : Nat}, Valid lo K n b → ∀ r ∈ b, lo ≤ r ∧ r ≤ K
  | [], _, _, r, hr => by cases hr
  | x :: b, n, h, r, hr => by
    rcases List.mem_cons.mp hr with e | hr
    · rw [e]
      exact ⟨h.1, h.2.1⟩
    · exact valid_runs h.2.2.2 r hr
theorem valid_len {lo K : Nat} (hlo : 1 ≤ lo) : ∀ {b : List Nat} {n : Nat}, Valid lo K n b → b.length ≤ n
  | [], n, _ => Nat.zero_le n
  | r :: b, n, h => by
    obtain ⟨h1, _, h3, h4⟩ := h
    have := valid_len hlo h4
    rw [List.length_cons]
    omega

/-! ### building a row from the left -/
/-- b stands ahead: whatever is right behind it for `left` cells makes a right row whole, its number by `off` greater -/
def Ahead (lo K n left off : Nat) (b : List Nat) : Prop := ∀ t, Valid lo K left t → Valid lo K n (b ++ t) ∧ rank lo K n (b ++ t) = off + rank lo K left t
theorem ahead_nil (lo K n : Nat) : Ahead lo K n n 0 [] := fun t h => ⟨h, (Nat.zero_add _).symm⟩
theorem ahead_more {lo K n left off r : Nat} {b : List Nat} (h : Ahead lo K n left off b) (h1 : lo ≤ r) (h2 : r ≤ K) (h3 : r ≤ left) :
    Ahead lo K n (left - r) (off + part lo K left (r - lo)) (b ++ [r]) := fun t ht => by
  obtain ⟨q1, q2⟩ := h (r :: t) ⟨h1, h2, h3, ht⟩
  rw [List.append_assoc]
  refine ⟨q1, q2.trans ?_⟩
  show off + (part lo K left (r - lo) + _) = _
  omega
theorem ahead_end {lo K n off : Nat} {b : List Nat} (h : Ahead lo K n 0 off b) : Valid lo K n b ∧ rank lo K n b = off := by
  have q := h [] rfl
  rw [List.append_nil] at q
  exact ⟨q.1, q.2⟩
/-- as long as the rest is not below the share so far, one run more is there to be tried -/
theorem run_there {lo K left j : Nat} (hlo : 1 ≤ lo) (hl : 1 ≤ left) (h : part lo K left j < cnt lo K left) : j < wide lo K left := by
  by_cases c : j < wide lo K left
  · exact c
  · have q := part_mono lo K left (a := wide lo K left) (b := j) (by omega)
    rw [← cnt_part lo K hlo hl] at q
    omega
theorem wide_run {lo K left j : Nat} (h : j < wide lo K left) : lo + j ≤ K ∧ lo + j ≤ left := by
  unfold wide at h
  omega

/-! ### the ends -/
/-- the runs behind which a row can go on -/
def runs (lo K n : Nat) : List Nat := ((List.range (wide lo K n)).map (lo + ·)).filter fun r => decide (0 < cnt lo K (n - r))
theorem mem_runs {lo K n r : Nat} : r ∈ runs lo K n ↔ lo ≤ r ∧ r ≤ K ∧ r ≤ n ∧ 0 < cnt lo K (n - r) := by
  unfold runs
  rw [List.mem_filter, List.mem_map]
  constructor
  · rintro ⟨⟨j, hj, rfl⟩, hc⟩
    have hj' := wide_run (List.mem_range.mp hj)
    exact ⟨Nat.le_add_right _ _, hj'.1, hj'.2, of_decide_eq_true hc⟩
  · rintro ⟨h1, h2, h3, h4⟩
    exact ⟨⟨r - lo, List.mem_range.mpr (by unfold wide; omega), by omega⟩, decide_eq_true h4⟩
theorem runs_some {lo K n : Nat} (hlo : 1 ≤ lo) (hn : 1 ≤ n) (h : 0 < cnt lo K n) : 0 < (runs lo K n).length := by
  rw [cnt_part lo K hlo hn] at h
  obtain ⟨i, hi, hp⟩ := sumTo_pos h
  have hw := wide_run hi
  have hm : lo + i ∈ runs lo K n := mem_runs.mpr ⟨Nat.le_add_right _ _, hw.1, hw.2, hp⟩
  exact List.length_pos_of_mem hm
theorem least_part {lo K n m : Nat} (h1 : m ∈ runs lo K n) (h2 : ∀ y ∈ runs lo K n, m ≤ y) : part lo K n (m - lo) = 0 := by
  obtain ⟨k1, k2, k3, _⟩ := mem_runs.mp h1
  refine sumTo_zero fun i hi => ?_
  by_cases c : 0 < cnt lo K (n - (lo + i))
  · have := h2 (lo + i) (mem_runs.mpr ⟨by omega, by omega, by omega, c⟩)
    omega
  · omega
theorem greatest_part {lo K n m : Nat} (hlo : 1 ≤ lo) (h1 : m ∈ runs lo K n) (h2 : ∀ y ∈ runs lo K n, y ≤ m) : part lo K n (m - lo) + cnt lo K (n - m) = cnt lo K n := by
  obtain ⟨k1, k2, k3, _⟩ := mem_runs.mp h1
  have e : part lo K n (m - lo + 1) = part lo K n (m - lo) + cnt lo K (n - m) := by
    rw [part_succ, show lo + (m - lo) = m by omega]
  rw [cnt_part lo K (n := n) hlo (by omega), ← e]
  refine (sumTo_tail (by unfold wide; omega) fun i hi hw => ?_).symm
  by_cases c : 0 < cnt lo K (n - (lo + i))
  · have hw' := wide_run hw
    have := h2 (lo + i) (mem_runs.mpr ⟨by omega, hw'.1, hw'.2, c⟩)
    omega
  · omega
/-! ### sizes -/
theorem sumTo_le {f : Nat → Nat} {B : Nat} : ∀ {m : Nat}, (∀ i, i < m → f i ≤ B) → sumTo f m ≤ m * B
  | 0, _ => Nat.zero_le _
  | m + 1, h => by
    have h1 := sumTo_le (f := f) (B := B) (m := m) fun i hi => h i (by omega)
    have h2 := h m (by omega)
    show sumTo f m + f m ≤ _
    rw [Nat.succ_mul]
    omega
theorem cnt_size {lo K : Nat} (hlo : 1 ≤ lo) (hK : K ≤ 16) : ∀ (n m : Nat), m ≤ n → cnt lo K m ≤ 32 ^ m
  | 0, m, h => by
    obtain rfl : m = 0 := by omega
    exact Nat.le_refl _
  | n + 1, m, h => by
    by_cases e : m ≤ n
    · exact cnt_size hlo hK n m e
    · obtain rfl : m = n + 1 := by omega
      rw [cnt_part lo K hlo (by omega)]
      have q : part lo K (n + 1) (wide lo K (n + 1)) ≤ wide lo K (n + 1) * 32 ^ n := by
        refine sumTo_le fun i hi => ?_
        refine Nat.le_trans (cnt_size hlo hK n _ (by omega)) (Nat.pow_le_pow_right (by omega) (by omega))
      have w : wide lo K (n + 1) ≤ 32 := by
        unfold wide
        omega
      have z := Nat.mul_le_mul_right (32 ^ n) w
      rw [Nat.pow_succ]
      omega
theorem small_log {k : Nat} (h : k ≤ 32 ^ 240) : k.log2 < 1920 := by
  by_cases e : k = 0
  · subst e
    decide
  · rw [Nat.log2_lt e]
    exact Nat.lt_of_le_of_lt h (by decide +kernel)
theorem cnt_log {lo K n k : Nat} (hlo : 1 ≤ lo) (hK : K ≤ 16) (hn : n ≤ 240) (hk : k ≤ cnt lo K n) : k.log2 < 1920 :=
  small_log (Nat.le_trans hk (Nat.le_trans (cnt_size hlo hK n n (Nat.le_refl _)) (Nat.pow_le_pow_right (by omega) hn)))
/-! ### into the integers -/
theorem cast_sum : ∀ l : List Nat, (l.map fun x : Nat => (x : Int)).sum = (l.sum : Int)
  | [] => rfl
  | x :: l => by
    rw [List.map_cons, List.sum_cons, List.sum_cons, cast_sum l]
    omega
end K42

/-! Rules that the layer lacks and this law wants: a list's item changed in place, sum of a tuple, repr of nested data, an own base's __init__ called by its class, defs whose promise wants that no repr runs around. -/
namespace K42
open PySem PySem.Spec PyProof.Rows L2
section
variable {X : Cx}
/-- xs[j] as an in-place operator reads it, j not negative -/
def gtL (K : PySem.W.Frag) : V → V → Hp → VK → Prop := fun o i H Q =>
  ∃ (p : Addr) (xs : List V) (j : Nat) (v : V), o = .ref p ∧ i = .int (j : Int) ∧ SqL K H p xs ∧ xs[j]? = some v ∧ Q v H
theorem get_lst : PGet X (gtL X.K) := by
  intro pins s σ H o i ov iv Q I ro ri h
  obtain ⟨p, xs, j, v, rfl, rfl, hq, hj, q⟩ := h
  cases ro
  obtain ⟨tk, rfl⟩ := ri
  obtain ⟨its, rv, pl, hz⟩ := I.list hq
  obtain ⟨u, eu, ru⟩ := rv.get hj
  have hlt : j < xs.length := (List.getElem?_eq_some_iff.mp hj).1
  have h63 := line63
  refine PyProof.Rows.getItem_listL (l := its) pl.isList (Int.natCast_nonneg j) (by omega) (x := u) ?_ ?_
  · rw [Int.toNat_natCast]
    exact eu
  · exact ⟨v, H, I, ru, q⟩
/-- sum of a tuple of ints -/
def smT (K : PySem.W.Frag) : List V → Hp → VK → Prop := fun vs H Q => ∃ (a : Addr) (ns : List Int), vs = [V.ref a] ∧ SqT K H a (ns.map V.int) ∧ Q (.int ns.sum) H
theorem cr_sumTup (hc : X.calm = true) : CallR X (.builtin "sum") (smT X.K) := by
  intro pins s σ H vs us Q I r h
  obtain ⟨a, ns, rfl, hs, q⟩ := h
  obtain ⟨its, rv, ht, hz⟩ := I.tuple hs
  rw [Vals.ref1 r]
  obtain ⟨xs, ex⟩ := rv.ints.allInts.items
  have hn : numsOf (intItems xs).toList = ns := by
    rw [← ex]
    exact rv.ints.numsOf
  rw [nums_intItems] at hn
  rw [ex] at ht
  refine PySem.W.ktm_sumG (I.ok.hd hc) ht fun h' tk t' hk => ?_
  rw [preSum_eq, List.take_of_length_le (by simp), hn]
  exact ⟨.int _, H, I.kept hk, ⟨_, rfl⟩, q⟩
/-- repr of nested data: wants that no repr is under way around -/
def rpD (K : PySem.W.Frag) : List V → Hp → VK → Prop := fun vs H Q => ∃ (a : Addr) (d : PyData), vs = [V.ref a] ∧ Dp K H (.ref a) d ∧ d.showable = true ∧ d.hasDict = false ∧ d.depth ≤ 60 ∧ d.shown.length ≤ sizeLine ∧ Q (.str d.shown) H
theorem cr_reprD (hg : X.A.guards = some []) (hu : X.A.units + 64 < cLine) : CallR X (.builtin "repr") (rpD X.K) := by
  intro pins s σ H vs us Q I r h
  obtain ⟨a, d, rfl, hd, hs, hn, hp, hz, q⟩ := h
  rw [Vals.ref1 r]
  obtain ⟨as, rd⟩ := Dp.reads I d (.ref a) (.ref a) hd rfl
  refine repr_of_reads' rd hs (PyData.noDict_hsm hn) hg (by omega) (fun b o e => e) (fun h' u tk hk => ?_) hz
  exact ⟨.str _, H, I.kept hk, ⟨_, rfl⟩, q⟩
/-- C.__init__(self, ..), C an own class over ValueError that has no __init__ of its own -/
theorem pe_baseInit {x : Str} {T : Addr} {mc : Value} {p1 p2 pos : Pos} {e : Expr} {es : List Expr} {ta : TA} {pl : Sem Bool} (hg : Gl X x) (hm : X.mg x = some (.ref T)) (cr : ClX.CRead X.K T mc)
    (hv : PySem.W.findCls X.K (.ref T) mc "__init__" = some (.val (.builtin "ValueError.__init__"))) (ha : PA X (e :: es) ta) (hdb : (x == ("__debug__" : Str)) = false := by decide)
    (hc : eval (.Call (.Attribute (.Name x p1) "__init__" p2) (e :: es) [] pos) X.env = (do
      let cls ← eval (.Name x p1) X.env
      standAt p2.atName
      let (fn, fst) ← holding [cls] (getMethod cls "__init__" pl)
      callWith pos fn fst (backTo pos (starEach (e :: es) X.env)) (backToKw pos (keywordEach [] X.env))) := by rfl)
    (he : starEach (e :: es) X.env = (false, eval e X.env) :: starEach es X.env := by rfl) (hpl : (backTo pos (starEach es X.env)).any (·.1) = false := by rfl) :
    PE X (.Call (.Attribute (.Name x p1) "__init__" p2) (e :: es) [] pos) (tVeI X.K ta) := by
  constructor
  intro pins s σ H Q I h
  refine PySem.W.methodCall_KW (pl := pl) (ld_glob I hg hm ?_ hdb) hc
  refine PySem.W.method_cls I.kIn cr.ga (PySem.W.cls_value I.kIn cr.rd hv (by decide +kernel) ?_)
  show wpAny _ _ (callWith pos (Value.builtin "ValueError.__init__") [] _ []) _ _ _
  refine callWith_method1 (thn (ha.run pos pins _ σ H _ (I.tok _) h) fun us s1 hh => ?_) he hpl
  obtain ⟨vs, H1, I1, r1, a, C, ws, ev, hl, O, ea, q⟩ := hh
  subst ev
  cases r1 with
  | @cons _ u0 _ ur ra rw' =>
    obtain rfl : u0 = Value.ref a := ra
    have hlen := Paired.length rw'
    refine oinit_ok O I1 ea (by rw [sizeLine_eq]; omega) fun s' J => ?_
    exact ⟨V.non, H1, J, rfl, q⟩
end
end K42

/-! Defs that are called where no repr runs around (their promise is kept under A.guards = some [] alone): the rule for a def's body, for its call, and the law's own head. -/
namespace K42
open PySem PySem.Spec PyProof.Rows L2
structure FnG (P : Program) (w : World) (K : PySem.W.Frag) (mg : Str → Option Value) (base : Heap) (k : Nat) (f : Addr) (fd : FuncData) (ps : List Str) (sp : Sp) : Prop where
  len : ∀ vs H Q E, sp vs H Q E → vs.length = ps.length
  run : ∀ (A : Around) (outer : List Env) (s : Shared) (H : Hp) (args : Args) (us : List Value) (vs : List V) (Q : VK) (E : XK),
    A.guards = some [] → Room k A → Env0 P w K mg base A outer s H → BindsTo s fd args (ps.zip us) → Vals vs us → sp vs H Q E →
    codeAny (model P w) A (.call (.ref f) args) (CR CX0 outer P w H s Q E) s
theorem FnG.of {P : Program} {w : World} {K : PySem.W.Frag} {mg : Str → Option Value} {base : Heap} {x qual : Str} {st : Stmt} {f : Addr} {fd : FuncData} {N ps : List Str} {k : Nat} {sp : Sp}
    (F : Fun K x qual st f fd) (S : FnScope N ps (defScope st)) (len : ∀ vs H Q E, sp vs H Q E → vs.length = ps.length)
    (hb : ∀ (cdv : Value) (A : Around) (outer : List Env) (s : Shared) (H : Hp) (vs : List V) (Q : VK) (E : XK), A.guards = some [] → Room k (A.deeper (envOfC qual (defScope st) s.heap.objs.size f cdv)) → sp vs H Q E →
      ∃ t, PSs (cxOf CX0 P w K mg base N qual (defScope st) f cdv A outer s H E) (defBody st) t ∧ t { nx := fun _ H' => Q .non H', rt := Q } (start N vs) H) :
    FnG P w K mg base (k + 1) f fd ps sp := by
  obtain ⟨oc, od, kV, doc, pm, an, cdv, ct, osl, rfl, lk, hcd⟩ := F.ex
  constructor
  · exact len
  intro A outer s H args us vs Q E hg hr e0 hbd rv hsp
  have KX : K.In s.heap := e0.mod.kin.keeps fun b o z => (e0.bs b o z).1
  have nl : s.heap.NoLimit := e0.mod.nolimit.keeps fun b o z => (e0.bs b o z).1
  refine codeAny_call_function hr.depth (KX _ _ lk) rfl S.co S.gen rfl (PySem.W.codeRec_of KX hcd) (hbd _ _ _ _ ?_)
  refine wpAny_newFunctionEnv_cells S.kind (fun q hq => ?_) (fun env he s1 ic => ?_)
  · obtain ⟨n, v⟩ := q
    rcases S.par n (List.of_mem_zip hq).1 with z | z
    · exact Or.inl z
    · exact Or.inr ⟨z, PySem.W.cellsFrom_some _ _ _ (Or.inl z)⟩
  subst he
  refine ⟨nl.keeps ic.toInCall.keep, codeAny_func ?_⟩
  obtain ⟨t, ht, q0⟩ := hb cdv A outer s H vs Q E hg (hr.deeper _) hsp
  have I0 := inv_start (CX := CX0) (E := E) S hr.hd e0 (len _ _ _ _ hsp) rv ic
  refine wpAny_mono (ht.run [] s1 (start N vs) H _ I0 q0) ?_ (fun _ _ z => z)
  intro fl s' hs
  cases fl with
  | ret u =>
    obtain ⟨v, σ', H', J, r', q⟩ := hs
    exact ⟨v, H', J.os, J.bare, J.base, J.hok, r', q⟩
  | next =>
    obtain ⟨σ', H', J, q⟩ := hs
    exact ⟨V.non, H', J.os, J.bare, J.base, J.hok, rfl, q⟩
  | brk =>
    obtain ⟨_, _, _, q⟩ := hs
    exact q.elim
  | cont =>
    obtain ⟨_, _, _, q⟩ := hs
    exact q.elim
section
variable {X : Cx} {k : Nat} {f : Addr} {fd : FuncData} {ps : List Str} {sp : Sp} {x : Str} {p pos : Pos} {e : Expr} {es : List Expr} {t : TA}
/-- f(e, ..), f such a def -/
theorem pe_callG (F : FnG X.prog X.w X.K X.mg X.base k f fd ps sp) (hgd : X.A.guards = some []) (hr : Room k X.A) (hg : Gl X x) (hm : X.mg x = some (.ref f)) (hk : PySem.W.keepIn X.K (.ref f) = true) (hb : Binds X.K fd ps [])
    (ha : PA X (e :: es) t) (hdb : (x == ("__debug__" : Str)) = false := by decide) (he : starEach (e :: es) X.env = (false, eval e X.env) :: starEach es X.env := by rfl) (hpl : (backTo pos (starEach es X.env)).any (·.1) = false := by rfl) :
    PE X (.Call (.Name x p) (e :: es) [] pos) (fun σ H Q => t σ H fun vs H1 => sp vs H1 Q E0) := by
  constructor
  intro pins s σ H Q I h
  refine wpAny_Call_Name_kw (ld_glob I hg hm ?_ hdb)
  refine PySem.W.callWith_K (h₀ := X.base) I.ok.mod.kin hk (thn (ha.run pos pins s σ H _ I h) fun us s1 hh => ?_) he hpl
  obtain ⟨vs, H1, I1, r, q⟩ := hh
  refine ⟨I1.kIn, ?_⟩
  have hl : us.length = ps.length := by
    rw [← r.length]
    exact F.len _ _ _ _ q
  have b := hb s1 us I1.kIn (by rw [List.append_nil]; exact hl)
  rw [List.append_nil] at b
  refine wpAny_call (codeAny_mono (F.run X.A X.stack s1 H1 ⟨us, []⟩ us vs Q E0 hgd hr I1.env0 b r q) ?_)
  intro res s' hq
  cases res with
  | error er => exact hq.elim
  | ok fl =>
    cases fl with
    | ret u => exact I1.after hq
    | next => exact hq.elim
    | brk => exact hq.elim
    | cont => exact hq.elim
end
/-! ### the law's head -/
/-- nothing but the script stands in the abstract heap, or nothing at all -/
theorem head_run {P : Program} {w : World} {K : PySem.W.Frag} {mg mb : Str → Option Value} {k : Nat} {fa a : Addr} {fd : FuncData} {x : Str} {sp : Sp} {s₁ : Shared} {vs : List Value} {H : Hp}
    (KX : K.In s₁.heap) (hns : s₁.heap.Ns mainGlobals mg) (hb : s₁.heap.Ns builtinsNs mb) (hbb : ∀ y : Str, y ≠ "__name__" → mb y = bootBuiltins y) (hlim : s₁.heap.NoLimit) (hg : s₁.gens = #[])
    (ha : s₁.heap.get? a = some { cls := .type "list", data := .seq vs.toArray }) (hr : Room k callerA)
    (F : ∀ base : Heap, K.In base → base.Ns mainGlobals mg → FnG P w K mg base k fa fd [x] sp) (hbind : ∀ (s : Shared) (u : Value), BindsTo s fd ⟨[u], []⟩ [(x, u)])
    (hsp : sp [.ref a] H (fun v _ => v = .bl true) E0) (hO : Only H) (hok : HOk P w H s₁.heap) (hA : ∀ b u, H b = some u → b = a ∧ K.lookup a = none) :
    codeAny (model P w) callerA (.call (.ref fa) ⟨[.ref a], []⟩) (fun r s' => r = .ok (.ret (.bool true)) ∧ OldK s₁.heap s'.heap ∧ s'.os = s₁.os ∧ AllBare s'.gens) s₁ := by
  have free_of : ∀ {b : Addr} {o : Obj}, s₁.heap.get? b = some o → b ≠ a ∨ K.lookup a = some o → H b = none := fun {b o} eb hz => by
    cases q : H b with
    | none => rfl
    | some u =>
      obtain ⟨e1, e2⟩ := hA b u q
      rcases hz with hz | hz
      · exact absurd e1 hz
      · rw [e2] at hz
        cases hz
  have dict_ne : ∀ {b : Addr} {o : Obj} {es : Array DictEntry} {ep : Nat}, s₁.heap.get? b = some o → o.data = .dict es ep → b ≠ a := fun {b o es ep} eb ed e => by
    rw [e, ha] at eb
    cases eb
    cases ed
  have nsB : ∀ {b : Addr} {m : Str → Option Value}, s₁.heap.Ns b m → (hidT s₁.heap H).Ns b m := fun {b m} z => by
    obtain ⟨o, es, ep, e1, e2, r⟩ := z
    exact ⟨o, es, ep, hidT_get e1 (free_of e1 (Or.inl (dict_ne e1 e2))), e2, r⟩
  have hK : K.In (hidT s₁.heap H) := fun b o e => by
    refine hidT_get (KX b o e) ?_
    by_cases hb : b = a
    · exact free_of (KX b o e) (Or.inr (hb ▸ e))
    · exact free_of (KX b o e) (Or.inl hb)
  have hlim' : (hidT s₁.heap H).NoLimit := by
    obtain ⟨mc, h1, h2⟩ := hlim
    exact ⟨mc, nsB h1, h2⟩
  have e0 : Env0 P w K mg (hidT s₁.heap H) callerA [] s₁ H := {
    frames := rfl
    mod := ⟨hK, nsB hns, ⟨mb, nsB hb, hbb⟩, hlim'⟩
    bs := fun b o e => of_hidT e
    bsz := Nat.le_of_eq (hidT_size _ _)
    funs := trivial
    frf := fun b hb => nomatch (show b ∈ ([] : List Addr) from hb)
    hok := hok
    bare := .of_eq hg }
  refine codeAny_mono ((F _ hK (nsB hns)).run callerA [] s₁ H ⟨[.ref a], []⟩ [.ref a] [.ref a] _ _ rfl hr e0 (hbind s₁ (.ref a)) (.cons rfl .nil) hsp) ?_
  intro res s' h
  cases res with
  | error e => exact h.elim
  | ok fl =>
    cases fl with
    | next => exact h.elim
    | brk => exact h.elim
    | cont => exact h.elim
    | ret u =>
      obtain ⟨v, H', os, bare, un, hok', rv, q⟩ := h
      cases (show v = .bl true from q)
      cases (show u = Value.bool true from rv)
      refine ⟨rfl, OldK.of_keep fun b o e => ?_, os, bare⟩
      cases q : H b with
      | none => exact un.keep b o e q (fun z => nomatch (show b ∈ ([] : List Addr) from z)) (fun z => nomatch z)
      | some u =>
        rcases hO b with z | ⟨ob, xs, z⟩
        · rw [q] at z
          cases z
        · have e1 := (hok b _ z).1
          have e2 := (hok' b _ (un.frzs b ob _ z)).1
          rw [e] at e1
          cases e1
          exact e2
theorem walk_ofG {l : PySem.W.OpenLaw} {n k : Nat} {q : Program} {loose : List Str} {XP : (Str → Option Value) → Heap → Prop} {YP : World → Heap → Prop} {d : DefRec} {K : Params → PySem.W.Frag} {sp : PySem.W.Frag → Sp} {x : Str}
    (hn : l.most = some n) (hn2 : n ≤ sizeLine) (hdf : d.params.defaults = []) (hr : Room k callerA) (hY : ∀ (w : World) (h : Heap), YP w h → (K w.params).In h)
    (F : ∀ (w : World) (mg : Str → Option Value) (fa : Addr) (h : Heap), (K w.params).In h → h.Ns mainGlobals mg → mg d.name = some (.ref fa) →
      ∃ fd : FuncData, (∀ (s : Shared) (u : Value), BindsTo s fd ⟨[u], []⟩ [(x, u)]) ∧
        ∀ base : Heap, (K w.params).In base → base.Ns mainGlobals mg → FnG l.prog w (K w.params) mg base k fa fd [x] (sp (K w.params)))
    (hsp : ∀ (K : PySem.W.Frag) (H : Hp) (a : Addr) (ns : List Int), ns.length ≤ n → SqL K H a (ns.map V.int) → sp K [.ref a] H (fun v _ => v = .bl true) E0) :
    PySem.W.WalkO q loose XP YP l.row.toRowW d [] (fun f vs => PySem.call f vs) := by
  refine Att.attach_call hn hdf ?_
  intro w s₀ s₁ mg mb fa o pm cd doc a vs ns G Y ho hd hcd hmg hobj hints hlen hg
  have KX := hY w _ Y
  obtain ⟨fd, hbd, hF⟩ := F w mg fa _ KX G.T.g hmg
  have rv := vals_ints hints
  have hz : ns.length ≤ sizeLine := Nat.le_trans hlen hn2
  cases hk : (K w.params).lookup a with
  | some ob =>
    have e := KX a ob hk
    rw [hobj] at e
    cases e
    have hS : SqL (K w.params) (fun _ => none) a (ns.map V.int) := .inr ⟨_, vs.toArray, _, hk, rfl, rfl, rfl, by rw [List.size_toArray, hints.length]; exact hz, by simpa using rv⟩
    exact head_run (H := fun _ => none) KX G.T.g G.T.b G.T.builtins G.T.nolimit hg hobj hr hF hbd (hsp _ _ a ns hlen hS) (fun _ => .inl rfl) (fun _ _ z => by cases (show (none : Option HO) = some _ from z)) (fun _ _ z => by cases (show (none : Option HO) = some _ from z))
  | none =>
    have at_a : ∀ {b : Addr} {u : HO}, (if b = a then some (HO.frz { cls := .type "list", data := .seq vs.toArray } (.lst (ns.map V.int))) else none) = some u → b = a ∧ u = .frz { cls := .type "list", data := .seq vs.toArray } (.lst (ns.map V.int)) := fun {b u} z => by
      by_cases hb : b = a
      · rw [if_pos hb] at z
        exact ⟨hb, (Option.some.inj z).symm⟩
      · rw [if_neg hb] at z
        cases z
    have hS : SqL (K w.params) (fun b => if b = a then some (HO.frz { cls := .type "list", data := .seq vs.toArray } (.lst (ns.map V.int))) else none) a (ns.map V.int) := .inl (.inr ⟨_, if_pos rfl⟩)
    refine head_run KX G.T.g G.T.b G.T.builtins G.T.nolimit hg hobj hr hF hbd (hsp _ _ a ns hlen hS) (fun b => ?_) (fun b u z => ?_) (fun b u z => ?_)
    · by_cases hb : b = a
      · exact .inr ⟨_, _, if_pos hb⟩
      · exact .inl (if_neg hb)
    · obtain ⟨e1, e2⟩ := at_a z
      subst e1 e2
      exact ⟨hobj, by rw [List.length_map]; exact hz, vs, _, rv, hobj⟩
    · exact ⟨(at_a z).1, hk⟩
end K42

/-! The program's defs: NoBody, counts_to, many_bodies, bits_of, body_at, number_of. -/
namespace K42
open PySem PySem.Spec PyProof.Rows L2
def top (i : Nat) : Stmt := PySem.Challenge.pw_flutterheld_k42_whole_each_number_one_bo.main.body.getD i (.Pass ⟨0, 0, 0, 0⟩)
abbrev sNB : Stmt := inClass (top 2) 0
abbrev sCo : Stmt := top 4
abbrev sMa : Stmt := top 5
abbrev sBi : Stmt := top 6
abbrev sBo : Stmt := top 8
abbrev sNu : Stmt := top 9
/-! ### heaps -/
theorem same_put {H H' : Hp} {p : Addr} {x : HO} (s : Same H H') (n : H p = none) : Same H (upd H' p x) := fun b o e => by
  rw [upd_ne (ne_of_none e n)]
  exact s b o e
theorem same_tup {K : PySem.W.Frag} {H H' : Hp} {a : Addr} {xs : List V} (e : Same H H') (h : SqT K H a xs) : SqT K H' a xs := by
  rcases h with (h | ⟨o, h⟩) | h
  · exact .inl (.inl (e _ _ h))
  · exact .inl (.inr ⟨o, e _ _ h⟩)
  · exact .inr h
/-! ### values -/
abbrev iv (x : Nat) : V := .int (x : Int)
theorem iv_map (l : List Nat) : l.map iv = (l.map fun x : Nat => (x : Int)).map V.int := by
  rw [List.map_map]
  rfl
theorem cut_of {xs : List V} {i j : Int} {a b : Nat} (ei : i = (a : Int)) (ej : j = (b : Int)) : cutV xs (some i) (some j) = (xs.drop a).take (b - a) := by
  subst ei ej
  unfold cutV
  rw [HT.sIx_nat, HT.sIx_nat]
  by_cases h : a ≤ xs.length
  · rw [Nat.min_eq_left h]
    by_cases hb : b ≤ xs.length
    · rw [Nat.min_eq_left hb]
    · rw [Nat.min_eq_right (by omega), List.take_of_length_le (by rw [List.length_drop]; omega), List.take_of_length_le (by rw [List.length_drop]; omega)]
  · rw [Nat.min_eq_right (by omega : xs.length ≤ a), List.drop_of_length_le (Nat.le_refl _), List.drop_of_length_le (by omega : xs.length ≤ a), List.take_nil, List.take_nil]
/-- the BOUNDS at a, as far as they are asked: lo and most -/
structure Bd (K : PySem.W.Frag) (H : Hp) (a : Addr) (lo hi : Nat) : Prop where
  at_ : ∃ xs, SqT K H a xs ∧ xs[3]? = some (iv lo) ∧ xs[4]? = some (iv hi)
  h1 : 1 ≤ lo
  h2 : lo ≤ hi
  h3 : hi ≤ 16
theorem Bd.same {K : PySem.W.Frag} {H H' : Hp} {a : Addr} {lo hi : Nat} (b : Bd K H a lo hi) (s : Same H H') : Bd K H' a lo hi := by
  obtain ⟨⟨xs, e, e3, e4⟩, h1, h2, h3⟩ := b
  exact ⟨⟨xs, same_tup s e, e3, e4⟩, h1, h2, h3⟩
/-- what the top has written -/
structure TxB (mg : Str → Option Value) : Prop where
  range : mg "range" = none
  sum : mg "sum" = none
  max : mg "max" = none
  min : mg "min" = none
  tuple : mg "tuple" = none
  len : mg "len" = none
  int : mg "int" = none
  abs : mg "abs" = none
  repr : mg "repr" = none
  isi : mg "isinstance" = none
structure TxE (K : PySem.W.Frag) (mg : Str → Option Value) (C T fI : Addr) : Prop where
  oex : OexC K C
  gT : mg "TapeError" = some (.ref T)
  gC : mg "NoBody" = some (.ref C)
  cr : ClX.CRead K T (.type "type")
  vI : PySem.W.findCls K (.ref T) (.type "type") "__init__" = some (.val (.builtin "ValueError.__init__"))
  nN : PySem.W.findIn K (.ref C) "number" = some none
  iC : PySem.W.findIn K (.ref C) "__init__" = some (some (.ref fI))
  tI : PySem.W.typeIn K (.ref fI) = some (.type "function")
  te : PySem.W.exmOne K (.ref C) (.ref C) = some true
section
variable {P : Program} {w : World} {K : PySem.W.Frag} {mg : Str → Option Value} {base : Heap}
/-! ### NoBody.__init__ -/
def spNB (C : Addr) : Sp := fun vs H Q _ => ∃ (a : Addr) (v : V), vs = [.ref a, v] ∧ H a = some (exo a C none) ∧
  ∀ d : Addr, H d = none → d ≠ a → Q .non (upd (upd H d (exd d [(("number" : Str), v)])) a (exo a C (some d)))
theorem scNB : FnScope ["self", "number"] ["self", "number"] (defScope sNB) := ⟨rfl, rfl, rfl, by decide +kernel, rfl, by decide +kernel, by decide +kernel⟩
theorem ok_nb {f C T : Addr} {fd : FuncData} {dvs : List V} (F : FunD K "__init__" "NoBody.__init__" (defArgs sNB) (defBody sNB) (defScope sNB) dvs [] f fd) (E : TxE K mg C T f) :
    FnOk P w K mg base CX0 1 f fd ["self", "number"] (spNB C) := by
  refine F.ok scNB (fun vs H Q E h => ?_) (fun cdv A outer s H vs Q E' hr h => ?_)
  · obtain ⟨a, v, rfl, _⟩ := h
    rfl
  · obtain ⟨a, v, rfl, ha, q⟩ := h
    refine ⟨_, pss_cons (ps_expr (pe_baseInit rfl E.gT E.cr E.vI (pa_cons (pv 0) (pa_cons (pv 1) pa_nil)))) (pss_one (ps_ost (pv 0) (pv 1))), ?_⟩
    refine ⟨_, rfl, v, rfl, a, C, [v], rfl, by show 1 ≤ 1000; decide, E.oex, ha, v, rfl, _, rfl, a, C, rfl, E.oex, E.nN, Or.inl ⟨ha, fun d nd ne => ?_⟩⟩
    exact q d nd ne
/-! ### counts_to -/
def spCo (K : PySem.W.Frag) : Sp := fun vs H Q _ => ∃ (bd : Addr) (n lo hi : Nat), vs = [.ref bd, iv n] ∧ Bd K H bd lo hi ∧ n ≤ 240 ∧
  ∀ (p : Addr) (H' : Hp), Same H H' → H p = none → H' p = some (.tup ((cl lo hi n).map iv)) → Q (.ref p) H'
theorem scCo : FnScope ["bounds", "data", "lo", "most", "found", "cells"] ["bounds", "data"] (defScope sCo) := ⟨rfl, rfl, rfl, by decide +kernel, rfl, by decide +kernel, by decide +kernel⟩
theorem ok_co {f : Addr} {fd : FuncData} (F : Fun K "counts_to" "counts_to" sCo f fd) (B : TxB mg) : FnOk P w K mg base CX0 1 f fd ["bounds", "data"] (spCo K) := by
  refine F.ok scCo (fun vs H Q E h => ?_) (fun cdv A outer s H vs Q E hr h => ?_)
  · obtain ⟨bd, n, lo, hi, rfl, _⟩ := h
    rfl
  · obtain ⟨bd, n, lo, hi, rfl, ⟨⟨xs, hT, e3, e4⟩, h1, h2, h3⟩, hn, q⟩ := h
    refine ⟨_, pss_cons (ps_par (i := 2) (j := 3) rfl scCo.nd rfl rfl (by decide) rfl rfl (pa_cons (pe_ix ix_tup (pv 0) pe_int (fun _ _ => rfl)) (pa_cons (pe_ix ix_tup (pv 0) pe_int (fun _ _ => rfl)) pa_nil)) (by rfl))
      (pss_cons (ps_set (i := 4) scCo.nd rfl (.inl rfl) (pe_lst (pa_cons pe_int pa_nil)))
      (pss_cons (ps_for PassesOwn.never rfl (pi_range2 (by rfl) B.range (pa_cons pe_int (pa_cons (pe_op op_add (pv 1) pe_int) pa_nil))) (pg_name (i := 5) scCo.nd rfl (.inl rfl))
        (pss_one (ps_expr (pe_bm PySem.F.plainAttrs_list PySem.F.slot_list_append PySem.F.type_list_append mt_append (pv 4)
          (pa_cons (pe_callB (cr_sum rfl) (by rfl) B.sum (by decide +kernel) (pa_cons (pe_slice sl_list (pv 4)
            (po_some (pe_callB (call_max2 rfl) (by rfl) B.max (by decide +kernel) (pa_cons pe_int (pa_cons (pe_op op_sub (pv 5) (pv 3)) pa_nil))))
            (po_some (pe_callB (call_max2 rfl) (by rfl) B.max (by decide +kernel) (pa_cons pe_int (pa_cons (pe_op op_add (pe_op op_sub (pv 5) (pv 2)) pe_int) pa_nil))))) pa_nil)) pa_nil)))))
      (pss_one (ps_ret (pe_callTy call_tuple_of (by rfl) B.tuple (by decide +kernel) (pa_cons (pv 4) pa_nil)))))), ?_⟩
    refine ⟨_, rfl, bd, xs, 3, _, rfl, rfl, hT, atI_nat (j := 3) e3, _, rfl, bd, xs, 4, _, rfl, rfl, hT, atI_nat (j := 4) e4, _, _, rfl, ?_⟩
    refine ⟨by show 1 ≤ sizeLine; decide, fun o no => ?_⟩
    refine ⟨_, rfl, _, _, rfl, rfl, 1, (n : Int) + 1, rfl, ⟨by decide, by decide, by omega, by omega⟩, ?_⟩
    have en : ((n : Int) + 1 - 1).toNat = n := by omega
    rw [en]
    refine for_range (lo := 1) (n := n) (fun i σ H' => ∃ y : Option V, σ = [some (.ref bd), some (iv n), some (iv lo), some (iv hi), some (.ref o), y] ∧ Same H H' ∧ H' o = some (.lst ((cl lo hi i).map iv)))
      ⟨none, rfl, same_put (Same.refl H) no, upd_same⟩ ?_ ?_
    · rintro i σ H' hi' ⟨y, rfl, sm, ho⟩
      have ea : (if (1 : Int) + (i : Int) - (hi : Int) > 0 then (1 : Int) + (i : Int) - (hi : Int) else 0) = ((i + 1 - hi : Nat) : Int) := by split <;> omega
      have eb : (if (1 : Int) + (i : Int) - (lo : Int) + 1 > 0 then (1 : Int) + (i : Int) - (lo : Int) + 1 else 0) = ((i + 2 - lo : Nat) : Int) := by split <;> omega
      refine ⟨.ref o, rfl, .inl ⟨rfl, _, SqL.of ho⟩, .ref o, rfl, _, rfl, _, rfl, _, _, rfl, rfl, _, _, rfl, _, rfl, ?_⟩
      refine ⟨_, rfl, _, rfl, _, _, rfl, rfl, _, _, rfl, rfl, _, _, rfl, _, rfl, o, _, rfl, SqL.of ho, fun t nt => ?_⟩
      rw [cut_of ea eb, ← List.map_drop, ← List.map_take]
      refine ⟨t, (((cl lo hi i).drop (i + 1 - hi)).take (i + 2 - lo - (i + 1 - hi))).map fun x : Nat => (x : Int), rfl, SqL.of (by rw [upd_same, iv_map]), ?_⟩
      rw [cast_sum, prog_sum lo hi i h1 h2]
      have hto : o ≠ t := ne_of_none ho nt
      have hl : ((cl lo hi i).map iv).length < sizeLine := by
        rw [List.length_map, cl_len]
        exact small1000 (by omega)
      refine ⟨o, _, _, rfl, rfl, (upd_ne hto).trans ho, hl, ⟨_, rfl, ?_, ?_⟩⟩
      · exact same_put (same_put sm (sm.free nt)) no
      · rw [upd_same, cl_next lo hi i h1, List.map_append]
        rfl
    · rintro σ H' ⟨y, rfl, sm, ho⟩
      refine ⟨_, rfl, o, _, rfl, .inl ⟨SqL.of ho, fun l nl => ?_⟩⟩
      exact q l _ (same_put sm (sm.free nl)) (sm.free nl) upd_same
end
end K42

namespace K42
open PySem PySem.Spec PyProof.Rows L2
section
variable {P : Program} {w : World} {K : PySem.W.Frag} {mg : Str → Option Value} {base : Heap}
theorem cl_iv {lo hi n i : Nat} (h : i ≤ n) : ((cl lo hi n).map iv)[i]? = some (iv (cnt lo hi i)) := by
  rw [List.getElem?_map, cl_at lo hi h]
  rfl
/-! ### many_bodies -/
def spMa (K : PySem.W.Frag) : Sp := fun vs H Q _ => ∃ (bd : Addr) (n lo hi : Nat), vs = [.ref bd, iv n] ∧ Bd K H bd lo hi ∧ n ≤ 240 ∧ ∀ H' : Hp, Same H H' → Q (iv (cnt lo hi n)) H'
theorem scMa : FnScope ["bounds", "data"] ["bounds", "data"] (defScope sMa) := ⟨rfl, rfl, rfl, by decide +kernel, rfl, by decide +kernel, by decide +kernel⟩
theorem ok_ma {f fC : Addr} {fd fdC : FuncData} (F : Fun K "many_bodies" "many_bodies" sMa f fd) (GC : FnOk P w K mg base CX0 1 fC fdC ["bounds", "data"] (spCo K)) (gC : mg "counts_to" = some (.ref fC)) (kC : PySem.W.keepIn K (.ref fC) = true) (bC : Binds K fdC ["bounds", "data"] []) :
    FnOk P w K mg base CX0 2 f fd ["bounds", "data"] (spMa K) := by
  refine F.ok scMa (fun vs H Q E h => ?_) (fun cdv A outer s H vs Q E hr h => ?_)
  · obtain ⟨bd, n, lo, hi, rfl, _⟩ := h
    rfl
  · obtain ⟨bd, n, lo, hi, rfl, B, hn, q⟩ := h
    refine ⟨_, pss_one (ps_ret (pe_ix ix_tup (pe_call GC hr rfl gC kC bC .nil pass0 (pa_cons (pv 0) (pa_cons (pv 1) pa_nil))) (pv 1) (fun _ _ => rfl))), ?_⟩
    refine ⟨_, rfl, _, rfl, bd, n, lo, hi, rfl, B, hn, fun p H' sm np hp => ?_⟩
    exact ⟨_, rfl, p, _, _, _, rfl, rfl, SqT.of hp, atI_nat (cl_iv (Nat.le_refl n)), q H' sm⟩
/-! ### bits_of -/
def spBi (K : PySem.W.Frag) : Sp := fun vs H Q _ => ∃ (bd : Addr) (n lo hi : Nat), vs = [.ref bd, iv n] ∧ Bd K H bd lo hi ∧ n ≤ 240 ∧ 0 < cnt lo hi n ∧ ∀ H' : Hp, Same H H' → Q (iv (cnt lo hi n).log2) H'
theorem scBi : FnScope ["bounds", "data", "many"] ["bounds", "data"] (defScope sBi) := ⟨rfl, rfl, rfl, by decide +kernel, rfl, by decide +kernel, by decide +kernel⟩
theorem bits_nat {c : Nat} (h : 0 < c) : ((Builtin.Int.intBits (c : Int) : Nat) : Int) - 1 = ((c.log2 : Nat) : Int) := by
  unfold Builtin.Int.intBits
  rw [if_neg (by simpa using (show (c : Int) ≠ 0 by omega)), Int.natAbs_natCast]
  omega
theorem ok_bi {f fM : Addr} {fd fdM : FuncData} (F : Fun K "bits_of" "bits_of" sBi f fd) (GM : FnOk P w K mg base CX0 2 fM fdM ["bounds", "data"] (spMa K)) (gM : mg "many_bodies" = some (.ref fM)) (kM : PySem.W.keepIn K (.ref fM) = true) (bM : Binds K fdM ["bounds", "data"] []) :
    FnOk P w K mg base CX0 3 f fd ["bounds", "data"] (spBi K) := by
  refine F.ok scBi (fun vs H Q E h => ?_) (fun cdv A outer s H vs Q E hr h => ?_)
  · obtain ⟨bd, n, lo, hi, rfl, _⟩ := h
    rfl
  · obtain ⟨bd, n, lo, hi, rfl, B, hn, hc, q⟩ := h
    refine ⟨_, pss_cons (ps_set (i := 2) scBi.nd rfl (.inl rfl) (pe_call GM hr rfl gM kM bM .nil pass0 (pa_cons (pv 0) (pa_cons (pv 1) pa_nil))))
      (pss_one (ps_ret (pe_ifExp (pt_cmpR op_eq (pv 2) pe_int (nomark _)) pe_non (pe_op op_sub (pe_bits (pv 2)) pe_int)))), ?_⟩
    refine ⟨_, rfl, _, rfl, bd, n, lo, hi, rfl, B, hn, fun H' sm => ?_⟩
    refine ⟨_, rfl, rfl, _, rfl, ?_⟩
    rw [decide_eq_false (show ¬ (iv (cnt lo hi n) = V.int 0) from fun z => by
      have z' : ((cnt lo hi n : Nat) : Int) = 0 := V.int.inj z
      omega)]
    refine iteF ?_
    refine ⟨_, rfl, _, rfl, _, _, rfl, rfl, ?_⟩
    show Q (.int (((Builtin.Int.intBits ((cnt lo hi n : Nat) : Int) : Nat) : Int) - 1)) H'
    rw [bits_nat hc]
    exact q H' sm
/-! ### body_at -/
def spBo (K : PySem.W.Frag) (C : Addr) : Sp := fun vs H Q E => ∃ (bd : Addr) (n lo hi : Nat) (k : Int), vs = [.ref bd, iv n, .int k] ∧ Bd K H bd lo hi ∧ n ≤ 240 ∧
  (¬ (0 ≤ k ∧ k < (cnt lo hi n : Int)) → ∀ (d : Addr) (H' : Hp), Same H H' → E (.ref C) (some d) H') ∧
  ∀ m : Nat, k = (m : Int) → m < cnt lo hi n → ∀ (b : List Nat) (p : Addr) (H' : Hp), Valid lo hi n b → rank lo hi n b = m → Same H H' → H p = none → H' p = some (.tup (b.map iv)) → Q (.ref p) H'
theorem scBo : FnScope ["bounds", "data", "number", "counts", "body", "left", "ahead", "run"] ["bounds", "data", "number"] (defScope sBo) := ⟨rfl, rfl, rfl, by decide +kernel, rfl, by decide +kernel, by decide +kernel⟩
theorem ok_bo {f fC fI C T : Addr} {fd fdC fdI : FuncData} (F : Fun K "body_at" "body_at" sBo f fd) (B : TxB mg) (GC : FnOk P w K mg base CX0 1 fC fdC ["bounds", "data"] (spCo K)) (gC : mg "counts_to" = some (.ref fC)) (kC : PySem.W.keepIn K (.ref fC) = true)
    (bC : Binds K fdC ["bounds", "data"] []) (X : TxE K mg C T fI) (GI : FnOk P w K mg base CX0 1 fI fdI ["self", "number"] (spNB C)) (bI : Binds K fdI ["self", "number"] []) :
    FnOk P w K mg base (L2.CX P w) 3 f fd ["bounds", "data", "number"] (spBo K C) := by
  refine F.okX scBo (fun vs H Q E h => ?_) (fun cdv A outer s H vs Q E hr h => ?_)
  · obtain ⟨bd, n, lo, hi, k, rfl, _⟩ := h
    rfl
  · obtain ⟨bd, n, lo, hi, k, rfl, D, hn, kE, kQ⟩ := h
    have hr1 : Room 1 _ := hr.mono (by decide)
    refine ⟨_, pss_cons (ps_set (i := 3) scBo.nd rfl (.inl rfl) (pe_call GC hr1 rfl gC kC bC .nil pass0 (pa_cons (pv 0) (pa_cons (pv 1) pa_nil))))
      (pss_cons (ps_if (pt_not (pt_chain op_le op_lt pe_int (pv 2) (pe_ix ix_tup (pv 3) (pv 1) (fun _ _ => rfl))))
        (pss_one (ps_raise rfl (takes_of rfl rfl rfl rfl) (pmk_oex X.oex X.iC X.tI GI hr bI .nil pass0 rfl X.gC (pa_cons (pv 2) pa_nil)))) pss_nil)
      (PSs.nox (pss_cons (ps_par3 (i := 4) (j := 5) (l := 6) rfl scBo.nd rfl rfl rfl (by decide) (by decide) (by decide) rfl rfl rfl (pa_cons (pe_lst pa_nil) (pa_cons (pv 1) (pa_cons (pv 2) pa_nil))) (by rfl))
      (pss_cons (ps_while PassesOwn.never (pt_cmpR op_gt (pv 5) pe_int (nomark _))
        (pss_cons (ps_set (i := 7) scBo.nd rfl (.inl rfl) (pe_ix ix_tup (pv 0) pe_int (fun _ _ => rfl)))
        (pss_cons (ps_while PassesOwn.never (pt_cmpR op_ge (pv 6) (pe_ix ix_tup (pv 3) (pe_op op_sub (pv 5) (pv 7)) (fun _ _ => rfl)) (nomark _))
          (pss_cons (ps_aug (i := 6) scBo.nd rfl (.inl rfl) (pe_ix ix_tup (pv 3) (pe_op op_sub (pv 5) (pv 7)) (fun _ _ => rfl)) ip_sub)
          (pss_one (ps_aug (i := 7) scBo.nd rfl (.inl rfl) pe_int ip_add))))
        (pss_cons (ps_expr (pe_bm PySem.F.plainAttrs_list PySem.F.slot_list_append PySem.F.type_list_append mt_append (pv 4) (pa_cons (pv 7) pa_nil)))
        (pss_one (ps_aug (i := 5) scBo.nd rfl (.inl rfl) (pv 7) ip_sub))))))
      (pss_one (ps_ret (pe_callTy call_tuple_of (by rfl) B.tuple (by decide +kernel) (pa_cons (pv 4) pa_nil)))))))), ?_⟩
    refine ⟨_, rfl, _, rfl, bd, n, lo, hi, rfl, D, hn, fun cs H1 s1 ncs hcs => ?_⟩
    have raise_ : ¬ (0 ≤ k ∧ k < (cnt lo hi n : Int)) → ∀ a : Addr, H1 a = none → spNB C (.ref a :: ([.int k] ++ [])) (upd H1 a (exo a C none))
        (fun v H2 => v = .non ∧ ∃ (d : Addr) (fs : List (Str × V)), H2 a = some (exo a C (some d)) ∧ H2 d = some (exd d fs) ∧ H1 d = none ∧ E (.ref C) (some d) (upd (L2.del H2 a) d (.xd fs))) (fun _ _ _ => False) := fun hne a na => by
      refine ⟨a, .int k, rfl, upd_same, fun d nd dne => ⟨rfl, d, _, upd_same, (upd_ne dne).trans upd_same, ?_, ?_⟩⟩
      · rw [upd_ne dne] at nd
        exact nd
      · refine kE hne d _ fun b o e => ?_
        have e1 := s1 b o e
        rw [upd_ne dne] at nd
        have n1 : b ≠ a := ne_of_none e1 na
        have n2 : b ≠ d := ne_of_none e1 nd
        rw [upd_ne n2, L2.del_ne n1, upd_ne n1, upd_ne n2, upd_ne n1]
        exact e1
    refine ⟨_, rfl, 0, k, rfl, rfl, _, rfl, ?_⟩
    by_cases h0 : 0 ≤ k
    · rw [decide_eq_true h0]
      refine iteT ⟨_, rfl, _, rfl, cs, _, _, _, rfl, rfl, SqT.of hcs, atI_nat (cl_iv (Nat.le_refl n)), k, (cnt lo hi n : Int), rfl, rfl, _, rfl, ?_⟩
      by_cases hc : k < (cnt lo hi n : Int)
      · rw [decide_eq_true hc]
        refine iteF ?_
        obtain ⟨m, rfl⟩ : ∃ m : Nat, k = (m : Int) := ⟨k.toNat, by omega⟩
        have hm : m < cnt lo hi n := by omega
        obtain ⟨⟨xs, hT, e3, e4⟩, h1, h2, h3⟩ := D.same s1
        -- body, left, ahead
        refine ⟨Nat.zero_le _, fun o no => ?_⟩
        refine ⟨_, rfl, _, rfl, _, _, _, rfl, ?_⟩
        refine ⟨fun mm σ H' => ∃ (b : List Nat) (left off : Nat) (lI aI : Int) (y : Option V), mm = left ∧
            σ = [some (.ref bd), some (iv n), some (iv m), some (.ref cs), some (.ref o), some (.int lI), some (.int aI), y] ∧ lI = (left : Int) ∧ Same H1 H' ∧ H' o = some (.lst (b.map iv)) ∧
            Ahead lo hi n left off b ∧ off ≤ m ∧ aI = ((m - off : Nat) : Int) ∧ m - off < cnt lo hi left ∧ b.length + left ≤ n,
          ⟨n, [], n, 0, n, m, none, rfl, rfl, rfl, same_put (Same.refl H1) no, upd_same, ahead_nil lo hi n, Nat.zero_le _, rfl, hm, by simp⟩, ?_⟩
        rintro mm σ H' ⟨b, left, off, lI, aI, y, rfl, rfl, rfl, sm, ho, hA, hoff, rfl, hlt, hlen⟩
        have hcs' : SqT K H' cs ((cl lo hi n).map iv) := SqT.of (sm _ _ hcs)
        refine ⟨_, rfl, _, _, rfl, rfl, _, rfl, ?_⟩
        refine ite2 (fun hl => ?_) (fun hl => ?_)
        · have hl1 : 1 ≤ mm := by
            have := of_decide_eq_true hl
            omega
          refine ⟨_, fun _ _ z => z, ?_⟩
          -- run = bounds[3]
          refine ⟨_, rfl, bd, xs, 3, _, rfl, rfl, same_tup sm hT, atI_nat (j := 3) e3, ?_⟩
          -- the inner loop
          refine ⟨fun mj σ' H'' => ∃ (j a : Nat) (rI aI : Int), mj = wide lo hi mm - j ∧ σ' = [some (.ref bd), some (iv n), some (iv m), some (.ref cs), some (.ref o), some (.int (mm : Int)), some (.int aI), some (.int rI)] ∧
              rI = ((lo + j : Nat) : Int) ∧ aI = (a : Int) ∧ H'' = H' ∧ part lo hi mm j + a = m - off,
            ⟨_, 0, m - off, lo, _, rfl, rfl, rfl, rfl, rfl, Nat.zero_add _⟩, ?_⟩
          rintro mj σ' H'' ⟨j, a, rI, aI, rfl, rfl, rfl, rfl, rfl, hsum⟩
          have hj : j < wide lo hi mm := run_there h1 hl1 (by omega)
          have hrun := wide_run hj
          have ei : (mm : Int) - ((lo + j : Nat) : Int) = ((mm - (lo + j) : Nat) : Int) := by omega
          have hat : atI ((cl lo hi n).map iv) ((mm : Int) - ((lo + j : Nat) : Int)) = some (iv (cnt lo hi (mm - (lo + j)))) := at_of ei (cl_iv (by omega))
          refine ⟨_, rfl, _, rfl, _, rfl, _, rfl, _, _, rfl, rfl, _, _, _, _, rfl, rfl, hcs', hat, _, _, rfl, rfl, _, rfl, ?_⟩
          refine ite2 (fun hg => ?_) (fun hg => ?_)
          · have hg' : cnt lo hi (mm - (lo + j)) ≤ a := by
              have := of_decide_eq_true hg
              omega
            refine ⟨_, fun _ _ z => z, ?_⟩
            refine ⟨_, rfl, _, rfl, _, rfl, _, rfl, _, _, rfl, rfl, _, _, _, _, rfl, rfl, hcs', hat, _, _, rfl, rfl, ?_⟩
            refine ⟨_, rfl, _, _, rfl, rfl, ?_⟩
            refine ⟨wide lo hi mm - (j + 1), by omega, j + 1, a - cnt lo hi (mm - (lo + j)), _, _, rfl, rfl, by dsimp only; omega, by dsimp only; omega, rfl, ?_⟩
            rw [part_succ]
            omega
          · have hg' : a < cnt lo hi (mm - (lo + j)) := by
              have hh : ¬ (((cnt lo hi (mm - (lo + j)) : Nat) : Int) ≤ (a : Int)) := fun z => hg (decide_eq_true z)
              omega
            -- body.append(run); left -= run
            have hbl : (b.map iv).length < sizeLine := by
              rw [List.length_map]
              exact small1000 (by omega)
            refine ⟨.ref o, rfl, .inl ⟨rfl, _, SqL.of ho⟩, _, rfl, o, _, _, rfl, rfl, ho, hbl, ?_⟩
            refine ⟨_, rfl, _, rfl, _, _, rfl, rfl, ?_⟩
            have hA' := ahead_more (r := lo + j) hA (by omega) hrun.1 hrun.2
            rw [show lo + j - lo = j by omega] at hA'
            refine ⟨mm - (lo + j), by omega, b ++ [lo + j], mm - (lo + j), off + part lo hi mm j, _, _, _, rfl, rfl, by dsimp only; omega, fun c x e => ?_, ?_, hA', by omega, ?_, ?_, ?_⟩
            · rw [upd_ne (ne_of_none e no)]
              exact sm c x e
            · rw [upd_same, List.map_append]
              rfl
            · congr 1
              omega
            · rw [show m - (off + part lo hi mm j) = a by omega]
              exact hg'
            · rw [List.length_append]
              show b.length + 1 + _ ≤ n
              omega
        · -- return tuple(body)
          have hl0 : mm = 0 := by
            have hh : ¬ ((0 : Int) < (mm : Int)) := fun z => hl (decide_eq_true z)
            omega
          subst hl0
          have hend := ahead_end hA
          have h0' : m - off = 0 := by
            rw [cnt_zero] at hlt
            omega
          refine ⟨_, rfl, o, _, rfl, .inl ⟨SqL.of ho, fun l nl => ?_⟩⟩
          exact kQ m rfl hm b l _ hend.1 (by rw [hend.2]; omega) (s1.trans (same_put sm (sm.free nl))) (s1.free (sm.free nl)) upd_same
      · rw [decide_eq_false hc]
        refine iteT ?_
        exact ⟨_, rfl, by show 1 ≤ 1000; decide, fun a na => raise_ (fun z => hc z.2) a na⟩
    · rw [decide_eq_false h0]
      refine iteF ?_
      refine ⟨_, rfl, ?_⟩
      refine iteT ?_
      exact ⟨_, rfl, by show 1 ≤ 1000; decide, fun a na => raise_ (fun z => h0 z.1) a na⟩
end
end K42

namespace K42
open PySem PySem.Spec PyProof.Rows L2
abbrev sLC : Stmt := top 18
abbrev sEn : Stmt := top 20
/-- the shares of the first j runs, one by one -/
def shares (lo hi left j : Nat) : List Nat := (List.range j).map fun i => cnt lo hi (left - (lo + i))
theorem shares_next (lo hi left j : Nat) : shares lo hi left (j + 1) = shares lo hi left j ++ [cnt lo hi (left - (lo + j))] := by
  unfold shares
  rw [List.range_succ, List.map_append]
  rfl
theorem shares_sum (lo hi left j : Nat) : (shares lo hi left j).sum = part lo hi left j := map_range_sum _ j
theorem shares_len (lo hi left j : Nat) : (shares lo hi left j).length = j := by
  unfold shares
  rw [List.length_map, List.length_range]
theorem iv_at {l : List Nat} {i : Nat} {x : V} (h : (l.map iv)[i]? = some x) : ∃ r, l[i]? = some r ∧ x = iv r := by
  rw [List.getElem?_map] at h
  cases e : l[i]? with
  | none =>
    rw [e] at h
    cases h
  | some r =>
    rw [e] at h
    exact ⟨r, rfl, (Option.some.inj h).symm⟩
theorem drop_at {α : Type} {l : List α} {i : Nat} {r : α} (h : l[i]? = some r) : l.drop i = r :: l.drop (i + 1) := by
  obtain ⟨hi, e⟩ := List.getElem?_eq_some_iff.mp h
  rw [List.drop_eq_getElem_cons hi, e]
section
variable {P : Program} {w : World} {K : PySem.W.Frag} {mg : Str → Option Value} {base : Heap}
/-! ### number_of -/
def spNu (K : PySem.W.Frag) : Sp := fun vs H Q _ => ∃ (bd t : Addr) (n lo hi : Nat) (b : List Nat), vs = [.ref bd, iv n, .ref t] ∧ Bd K H bd lo hi ∧ n ≤ 240 ∧ SqT K H t (b.map iv) ∧ Valid lo hi n b ∧ ∀ H' : Hp, Same H H' → Q (iv (rank lo hi n b)) H'
theorem scNu : FnScope ["bounds", "data", "body", "counts", "number", "left", "run", "other"] ["bounds", "data", "body"] (defScope sNu) := ⟨rfl, rfl, rfl, by decide +kernel, rfl, by decide +kernel, by decide +kernel⟩
theorem ok_nu {f fC : Addr} {fd fdC : FuncData} (F : Fun K "number_of" "number_of" sNu f fd) (B : TxB mg) (GC : FnOk P w K mg base CX0 1 fC fdC ["bounds", "data"] (spCo K)) (gC : mg "counts_to" = some (.ref fC)) (kC : PySem.W.keepIn K (.ref fC) = true)
    (bC : Binds K fdC ["bounds", "data"] []) : FnOk P w K mg base CX0 2 f fd ["bounds", "data", "body"] (spNu K) := by
  refine F.ok scNu (fun vs H Q E h => ?_) (fun cdv A outer s H vs Q E hr h => ?_)
  · obtain ⟨bd, t, n, lo, hi, b, rfl, _⟩ := h
    rfl
  · obtain ⟨bd, t, n, lo, hi, b, rfl, D, hn, hb, hv, q⟩ := h
    refine ⟨_, pss_cons (ps_set (i := 3) scNu.nd rfl (.inr rfl) (pe_call GC hr rfl gC kC bC .nil pass0 (pa_cons (pv 0) (pa_cons (pv 1) pa_nil))))
      (pss_cons (ps_asg (pe_tup (pa_cons pe_int (pa_cons (pv 1) pa_nil))) (pg_tup rfl (pgs_cons (pg_name (i := 4) scNu.nd rfl (.inl rfl)) (pgs_cons (pg_name (i := 5) scNu.nd rfl (.inr rfl)) pgs_nil))))
      (pss_cons (ps_for PassesOwn.never rfl (pi_tup (pv 2)) (pg_name (i := 6) scNu.nd rfl (.inl rfl))
        (pss_cons (ps_aug (i := 4) scNu.nd rfl (.inl rfl) (pe_callB (cr_sum rfl) (by rfl) B.sum (by decide +kernel) (pa_cons
            (pe_lc (own := [("other", 7)]) (g := gName 7) (tt := tYes) rfl scNu.nd (pi_range2 (by rfl) B.range (pa_cons (pe_ix ix_tup (pv 0) pe_int (fun _ _ => rfl)) (pa_cons (pv 6) pa_nil)))
              (blkOk_by (N := ["bounds", "data", "body", "counts", "number", "left", "run", "other"]) (sc := defScope sNu) (by decide +kernel)) (fun _ _ _ _ _ => pg_name (i := 7) scNu.nd rfl (Or.inl rfl)) (fun _ _ _ _ _ => pts_nil)
              (fun _ _ _ _ _ => pe_ix (r := rIxT K) ix_tup (pv 3) (pe_op op_sub (pv 5) (pv 7)) (fun _ _ => rfl))) pa_nil)) ip_add)
        (pss_one (ps_aug (i := 5) scNu.nd rfl (.inr rfl) (pv 6) ip_sub))))
      (pss_one (ps_ret (pv 4))))), ?_⟩
    refine ⟨_, rfl, _, rfl, bd, n, lo, hi, rfl, D, hn, fun cs H1 s1 ncs hcs => ?_⟩
    refine ⟨_, rfl, by show 2 ≤ sizeLine; decide, fun z nz => ⟨z, _, rfl, SqT.of upd_same, rfl, _, _, rfl, _, _, rfl, rfl, ?_⟩⟩
    obtain ⟨⟨xs, hT, e3, e4⟩, h1, h2, h3⟩ := D.same s1
    have s2 : Same H1 (upd H1 z (.tup [V.int 0, iv n])) := same_put (Same.refl H1) nz
    refine ⟨_, rfl, t, rfl, ⟨_, same_tup s2 (same_tup s1 hb)⟩, for_tup (K := K) (a := t) (xs := b.map iv) (fun i σ H' => ∃ (num left : Nat) (nI lI : Int) (y : Option V),
        σ = [some (.ref bd), some (iv n), some (.ref t), some (.ref cs), some (.int nI), some (.int lI), y, none] ∧ nI = (num : Int) ∧ lI = (left : Int) ∧ Same H1 H' ∧ left ≤ n ∧ Valid lo hi left (b.drop i) ∧ num + rank lo hi left (b.drop i) = rank lo hi n b)
      ⟨0, n, _, _, none, rfl, rfl, rfl, s2, Nat.le_refl _, hv, Nat.zero_add _⟩ (fun i σ H' _ ⟨_, _, _, _, _, _, _, _, sm, _⟩ => same_tup sm (same_tup s1 hb)) ?_ ?_⟩
    · rintro i x σ H' hi' ⟨num, left, nI, lI, y, rfl, rfl, rfl, sm, hln, hV, hnum⟩
      obtain ⟨r, hr', rfl⟩ := iv_at hi'
      rw [drop_at hr'] at hV hnum
      obtain ⟨v1, v2, v3, v4⟩ := hV
      have hcs' : SqT K H' cs ((cl lo hi n).map iv) := SqT.of (sm _ _ hcs)
      refine ⟨_, rfl, _, rfl, bd, xs, 3, _, rfl, rfl, same_tup sm hT, atI_nat (j := 3) e3, _, rfl, (lo : Int), (r : Int), rfl, ⟨by omega, by omega, by omega, by omega⟩, fun D' nD => ?_⟩
      have en : ((r : Int) - (lo : Int)).toNat = r - lo := by omega
      rw [en]
      refine lc_range (lo := (lo : Int)) (n := r - lo) (fun i H'' => Same H' H'' ∧ H'' D' = some (.lst ((shares lo hi left i).map iv))) ⟨same_put (Same.refl H') nD, upd_same⟩ ?_ ?_
      · rintro i2 H2 hi2 ⟨sm2, hD⟩
        have ei : (left : Int) - ((lo : Int) + (i2 : Int)) = ((left - (lo + i2) : Nat) : Int) := by omega
        refine ⟨rfl, _, rfl, _, rfl, _, rfl, _, _, rfl, rfl, cs, _, _, _, rfl, rfl, same_tup sm2 hcs', at_of ei (cl_iv (by omega)), _, hD, ?_, same_put sm2 nD, ?_⟩
        · rw [List.length_map, shares_len]
          exact small1000 (by omega)
        · rw [upd_same, shares_next, List.map_append]
          rfl
      · rintro H2 ⟨sm2, hD⟩
        refine ⟨D', (shares lo hi left (r - lo)).map fun x : Nat => (x : Int), rfl, SqL.of (by rw [hD, iv_map]), ?_⟩
        rw [cast_sum, shares_sum]
        refine ⟨_, _, rfl, rfl, ?_⟩
        refine ⟨_, rfl, _, rfl, _, _, rfl, rfl, ?_⟩
        refine ⟨num + part lo hi left (r - lo), left - r, _, _, _, rfl, by dsimp only; omega, by dsimp only; omega, sm.trans sm2, by omega, v4, ?_⟩
        rw [← hnum]
        show _ = num + (part lo hi left (r - lo) + rank lo hi (left - r) (b.drop (i + 1)))
        omega
    · rintro σ H' ⟨num, left, nI, lI, y, rfl, rfl, rfl, sm, hln, hV, hnum⟩
      rw [List.length_map, List.drop_length] at hnum
      refine ⟨_, rfl, ?_⟩
      have e : num = rank lo hi n b := hnum
      show Q (iv num) H'
      rw [e]
      exact q H' (s1.trans sm)
/-! ### the law's own counts -/
def spLC (K : PySem.W.Frag) : Sp := fun vs H Q _ => ∃ (bd : Addr) (n lo hi : Nat), vs = [.ref bd, iv n] ∧ Bd K H bd lo hi ∧ n ≤ 240 ∧
  ∀ (p : Addr) (H' : Hp), Same H H' → H p = none → H' p = some (.lst ((cl lo hi n).map iv)) → Q (.ref p) H'
theorem scLC : FnScope ["_law_bounds", "_law_data", "_law_found", "_law_cells", "_law_run"] ["_law_bounds", "_law_data"] (defScope sLC) := ⟨rfl, rfl, rfl, by decide +kernel, rfl, by decide +kernel, by decide +kernel⟩
theorem ok_lc {f : Addr} {fd : FuncData} (F : Fun K "_law_counts" "_law_counts" sLC f fd) (B : TxB mg) : FnOk P w K mg base CX0 1 f fd ["_law_bounds", "_law_data"] (spLC K) := by
  refine F.ok scLC (fun vs H Q E h => ?_) (fun cdv A outer s H vs Q E hr h => ?_)
  · obtain ⟨bd, n, lo, hi, rfl, _⟩ := h
    rfl
  · obtain ⟨bd, n, lo, hi, rfl, ⟨⟨xs, hT, e3, e4⟩, h1, h2, h3⟩, hn, q⟩ := h
    refine ⟨_, pss_cons (ps_set (i := 2) scLC.nd rfl (.inr rfl) (pe_lst (pa_cons pe_int pa_nil)))
      (pss_cons (ps_for PassesOwn.never rfl (pi_range2 (by rfl) B.range (pa_cons pe_int (pa_cons (pe_op op_add (pv 1) pe_int) pa_nil))) (pg_name (i := 3) scLC.nd rfl (.inr rfl))
        (pss_one (ps_expr (pe_bm PySem.F.plainAttrs_list PySem.F.slot_list_append PySem.F.type_list_append mt_append (pv 2)
          (pa_cons (pe_callB (cr_sum rfl) (by rfl) B.sum (by decide +kernel) (pa_cons
            (pe_lc (own := [("_law_run", 4)]) (g := gName 4) (tt := tYes) rfl scLC.nd (pi_range2 (by rfl) B.range (pa_cons (pe_ix ix_tup (pv 0) pe_int (fun _ _ => rfl))
                (pa_cons (pe_op op_add (pe_callB (call_min2 rfl) (by rfl) B.min (by decide +kernel) (pa_cons (pe_ix ix_tup (pv 0) pe_int (fun _ _ => rfl)) (pa_cons (pv 3) pa_nil))) pe_int) pa_nil)))
              (blkOk_by (N := ["_law_bounds", "_law_data", "_law_found", "_law_cells", "_law_run"]) (sc := defScope sLC) (by decide +kernel)) (fun _ _ _ _ _ => pg_name (i := 4) scLC.nd rfl (Or.inl rfl)) (fun _ _ _ _ _ => pts_nil)
              (fun _ _ _ _ _ => pe_ix (r := rIxL K) ix_list (pv 2) (pe_op op_sub (pv 3) (pv 4)) (fun _ _ => rfl))) pa_nil)) pa_nil)))))
      (pss_one (ps_ret (pv 2)))), ?_⟩
    refine ⟨by show 1 ≤ sizeLine; decide, fun o no => ?_⟩
    refine ⟨_, rfl, _, _, rfl, rfl, 1, (n : Int) + 1, rfl, ⟨by decide, by decide, by omega, by omega⟩, ?_⟩
    have en : ((n : Int) + 1 - 1).toNat = n := by omega
    rw [en]
    refine for_range (lo := 1) (n := n) (fun i σ H' => ∃ y : Option V, σ = [some (.ref bd), some (iv n), some (.ref o), y, none] ∧ Same H H' ∧ H' o = some (.lst ((cl lo hi i).map iv)))
      ⟨none, rfl, same_put (Same.refl H) no, upd_same⟩ ?_ ?_
    · rintro i σ H' hi' ⟨y, rfl, sm, ho⟩
      have hT' := same_tup sm hT
      have ej : (if (1 : Int) + (i : Int) < (hi : Int) then (1 : Int) + (i : Int) else (hi : Int)) + 1 = ((min hi (i + 1) + 1 : Nat) : Int) := by split <;> omega
      refine ⟨.ref o, rfl, .inl ⟨rfl, _, SqL.of ho⟩, _, rfl, bd, xs, 3, _, rfl, rfl, hT', atI_nat (j := 3) e3, _, rfl, bd, xs, 4, _, rfl, rfl, hT', atI_nat (j := 4) e4, _, rfl, _, _, rfl, _, _, rfl, rfl, (lo : Int), ((min hi (i + 1) + 1 : Nat) : Int), ?_, ⟨by omega, by omega, by omega, by omega⟩, fun D nD => ?_⟩
      · exact congrArg (fun z : Int => [iv lo, V.int z]) ej
      have en2 : (((min hi (i + 1) + 1 : Nat) : Int) - (lo : Int)).toNat = wide lo hi (i + 1) := by
        unfold wide
        omega
      rw [en2]
      have hDo : o ≠ D := ne_of_none ho nD
      refine lc_range (lo := (lo : Int)) (n := wide lo hi (i + 1)) (fun i2 H'' => Same H' H'' ∧ H'' D = some (.lst ((shares lo hi (i + 1) i2).map iv))) ⟨same_put (Same.refl H') nD, upd_same⟩ ?_ ?_
      · rintro i2 H2 hi2 ⟨sm2, hD⟩
        have hw := wide_run hi2
        have ei : (1 : Int) + (i : Int) - ((lo : Int) + (i2 : Int)) = ((i + 1 - (lo + i2) : Nat) : Int) := by omega
        refine ⟨rfl, _, rfl, _, rfl, _, rfl, _, _, rfl, rfl, o, _, _, _, rfl, rfl, SqL.of (sm2 _ _ ho), at_of ei (cl_iv (by omega)), _, hD, ?_, same_put sm2 nD, ?_⟩
        · rw [List.length_map, shares_len]
          exact small1000 (by omega)
        · rw [upd_same, shares_next, List.map_append]
          rfl
      · rintro H2 ⟨sm2, hD⟩
        refine ⟨D, (shares lo hi (i + 1) (wide lo hi (i + 1))).map fun x : Nat => (x : Int), rfl, SqL.of (by rw [hD, iv_map]), ?_⟩
        rw [cast_sum, shares_sum]
        have hl : ((cl lo hi i).map iv).length < sizeLine := by
          rw [List.length_map, cl_len]
          exact small1000 (by omega)
        refine ⟨o, _, _, rfl, rfl, sm2 _ _ ho, hl, ⟨_, rfl, same_put (sm.trans sm2) no, ?_⟩⟩
        rw [upd_same, cl_next lo hi i h1, List.map_append]
        rfl
    · rintro σ H' ⟨y, rfl, sm, ho⟩
      exact ⟨_, rfl, q o H' sm no ho⟩
end
end K42

namespace K42
open PySem PySem.Spec PyProof.Rows L2
/-- the runs among the first j behind which a row can go on -/
def runsTo (lo hi left j : Nat) : List Nat := ((List.range j).map (lo + ·)).filter fun r => decide (0 < cnt lo hi (left - r))
theorem runsTo_yes {lo hi left j : Nat} (h : 0 < cnt lo hi (left - (lo + j))) : runsTo lo hi left (j + 1) = runsTo lo hi left j ++ [lo + j] := by
  unfold runsTo
  rw [List.range_succ, List.map_append, List.filter_append]
  have e : (([j] : List Nat).map (lo + ·)).filter (fun r => decide (0 < cnt lo hi (left - r))) = [lo + j] := by simp [h]
  rw [e]
theorem runsTo_no {lo hi left j : Nat} (h : ¬ 0 < cnt lo hi (left - (lo + j))) : runsTo lo hi left (j + 1) = runsTo lo hi left j := by
  unfold runsTo
  rw [List.range_succ, List.map_append, List.filter_append]
  have e : (([j] : List Nat).map (lo + ·)).filter (fun r => decide (0 < cnt lo hi (left - r))) = [] := by
    have h' : cnt lo hi (left - (lo + j)) = 0 := by omega
    simp [h']
  rw [e, List.append_nil]
theorem runsTo_len {lo hi left j : Nat} : (runsTo lo hi left j).length ≤ j := by
  unfold runsTo
  refine Nat.le_trans (List.length_filter_le _ _) ?_
  rw [List.length_map, List.length_range]
  exact Nat.le_refl _
theorem runsTo_all (lo hi left : Nat) : runsTo lo hi left (wide lo hi left) = runs lo hi left := rfl
section
variable {P : Program} {w : World} {K : PySem.W.Frag} {mg : Str → Option Value} {base : Heap}
def spEn (K : PySem.W.Frag) : Sp := fun vs H Q _ => ∃ (bd cs : Addr) (n lo hi : Nat) (lst : Bool), vs = [.ref bd, iv n, .ref cs, .bl lst] ∧ Bd K H bd lo hi ∧ n ≤ 240 ∧ SqL K H cs ((cl lo hi n).map iv) ∧ 0 < cnt lo hi n ∧
  ∀ (b : List Nat) (p : Addr) (H' : Hp), Valid lo hi n b → (lst = true → rank lo hi n b = 0) → (lst = false → rank lo hi n b + 1 = cnt lo hi n) → Same H H' → H p = none → H' p = some (.tup (b.map iv)) → Q (.ref p) H'
theorem scEn : FnScope ["_law_bounds", "_law_data", "_law_counts_here", "_law_is_least", "_law_row", "_law_left", "_law_runs", "_law_run"] ["_law_bounds", "_law_data", "_law_counts_here", "_law_is_least"] (defScope sEn) := ⟨rfl, rfl, rfl, by decide +kernel, rfl, by decide +kernel, by decide +kernel⟩
theorem ok_en {f : Addr} {fd : FuncData} (F : Fun K "_law_end" "_law_end" sEn f fd) (B : TxB mg) : FnOk P w K mg base CX0 1 f fd ["_law_bounds", "_law_data", "_law_counts_here", "_law_is_least"] (spEn K) := by
  refine F.ok scEn (fun vs H Q E h => ?_) (fun cdv A outer s H vs Q E hr h => ?_)
  · obtain ⟨bd, cs, n, lo, hi, lst, rfl, _⟩ := h
    rfl
  · obtain ⟨bd, cs, n, lo, hi, lst, rfl, ⟨⟨xs, hT, e3, e4⟩, h1, h2, h3⟩, hn, hcs, hc, q⟩ := h
    refine ⟨_, pss_cons (ps_asg (pe_tup (pa_cons (pe_lst pa_nil) (pa_cons (pv 1) pa_nil))) (pg_tup rfl (pgs_cons (pg_name (i := 4) scEn.nd rfl (.inl rfl)) (pgs_cons (pg_name (i := 5) scEn.nd rfl (.inr rfl)) pgs_nil))))
      (pss_cons (ps_while PassesOwn.never (pt_cmpR op_gt (pv 5) pe_int (nomark _))
        (pss_cons (ps_setLc (i := 6) (own := [("_law_run", 7)]) (g := gName 7) (tt := tTest (tOp (rI0 fun i j => .bl (decide (j < i))) (tOp (rIxL K) (tVar 2) (tOp (rI0 fun i j => .int (i - j)) (tVar 5) (tVar 7))) (tC (.int 0)))) rfl scEn.nd rfl rfl (sw_true rfl rfl rfl (by decide +kernel))
            (pi_range2 (by rfl) B.range (pa_cons (pe_ix ix_tup (pv 0) pe_int (fun _ _ => rfl))
              (pa_cons (pe_op op_add (pe_callB (call_min2 rfl) (by rfl) B.min (by decide +kernel) (pa_cons (pe_ix ix_tup (pv 0) pe_int (fun _ _ => rfl)) (pa_cons (pv 5) pa_nil))) pe_int) pa_nil)))
            (blkOk_by (N := ["_law_bounds", "_law_data", "_law_counts_here", "_law_is_least", "_law_row", "_law_left", "_law_runs", "_law_run"]) (sc := defScope sEn) (by decide +kernel)) (fun _ _ _ _ _ => pg_name (i := 7) scEn.nd rfl (Or.inl rfl))
            (fun _ _ _ _ _ => pts_one (pt_cmpR op_gt (pe_ix (r := rIxL K) ix_list (pv 2) (pe_op op_sub (pv 5) (pv 7)) (fun _ _ => rfl)) pe_int (nomark _)))
            (fun _ _ _ _ _ => pv 7))
        (pss_cons (ps_expr (pe_bm PySem.F.plainAttrs_list PySem.F.slot_list_append PySem.F.type_list_append mt_append (pv 4)
          (pa_cons (pe_ifExp (pt_val (pv 3)) (pe_callB (cr_min rfl) (by rfl) B.min (by decide +kernel) (pa_cons (pv 6) pa_nil)) (pe_callB (cr_max rfl) (by rfl) B.max (by decide +kernel) (pa_cons (pv 6) pa_nil))) pa_nil)))
        (pss_one (ps_aug (i := 5) scEn.nd rfl (.inr rfl) (pe_ix ix_list (pv 4) (pe_un un_neg pe_int) (fun _ _ => rfl)) ip_sub)))))
      (pss_one (ps_ret (pe_callTy call_tuple_of (by rfl) B.tuple (by decide +kernel) (pa_cons (pv 4) pa_nil))))), ?_⟩
    refine ⟨Nat.zero_le _, fun o no => ?_⟩
    refine ⟨_, rfl, by show 2 ≤ sizeLine; decide, fun z nz => ⟨z, _, rfl, SqT.of upd_same, rfl, _, _, rfl, _, _, rfl, rfl, ?_⟩⟩
    have s2 : Same H (upd (upd H o (.lst [])) z (.tup [.ref o, iv n])) := same_put (same_put (Same.refl H) no) (by
      by_cases e : z = o
      · rw [e, upd_same] at nz
        cases nz
      · rw [upd_ne e] at nz
        exact nz)
    have hoz : o ≠ z := fun e => by
      rw [← e, upd_same] at nz
      cases nz
    refine ⟨fun m σ H' => ∃ (b : List Nat) (left off : Nat) (lI : Int) (y : Option V), m = left ∧ σ = [some (.ref bd), some (iv n), some (.ref cs), some (.bl lst), some (.ref o), some (.int lI), y, none] ∧ lI = (left : Int) ∧ Same H H' ∧ H' o = some (.lst (b.map iv)) ∧
        Ahead lo hi n left off b ∧ (lst = true → off = 0) ∧ (lst = false → off + cnt lo hi left = cnt lo hi n) ∧ 0 < cnt lo hi left ∧ b.length + left ≤ n,
      ⟨n, [], n, 0, _, none, rfl, rfl, rfl, s2, (upd_ne hoz).trans upd_same, ahead_nil lo hi n, fun _ => rfl, fun _ => Nat.zero_add _, hc, by simp⟩, ?_⟩
    rintro m σ H' ⟨b, left, off, lI, y, rfl, rfl, rfl, sm, ho, hA, hl1, hl2, hpos, hlen⟩
    refine ⟨_, rfl, _, _, rfl, rfl, _, rfl, ?_⟩
    refine ite2 (fun hl => ?_) (fun hl => ?_)
    · have hm1 : 1 ≤ m := by
        have := of_decide_eq_true hl
        omega
      refine ⟨_, fun _ _ z => z, ?_⟩
      have hT' := same_tup sm hT
      have ej : (if (m : Int) < (hi : Int) then (m : Int) else (hi : Int)) + 1 = ((min hi m + 1 : Nat) : Int) := by split <;> omega
      refine ⟨_, rfl, bd, xs, 3, _, rfl, rfl, hT', atI_nat (j := 3) e3, _, rfl, bd, xs, 4, _, rfl, rfl, hT', atI_nat (j := 4) e4, _, rfl, _, _, rfl, _, _, rfl, rfl, (lo : Int), ((min hi m + 1 : Nat) : Int), ?_, ⟨by omega, by omega, by omega, by omega⟩, fun D nD => ?_⟩
      · exact congrArg (fun z : Int => [iv lo, V.int z]) ej
      have en2 : (((min hi m + 1 : Nat) : Int) - (lo : Int)).toNat = wide lo hi m := by
        unfold wide
        omega
      rw [en2]
      refine lc_range (lo := (lo : Int)) (n := wide lo hi m) (fun i2 H'' => Same H' H'' ∧ H'' D = some (.lst ((runsTo lo hi m i2).map iv))) ⟨same_put (Same.refl H') nD, upd_same⟩ ?_ ?_
      · rintro i2 H2 hi2 ⟨sm2, hD⟩
        have hw := wide_run hi2
        have ei : (m : Int) - ((lo : Int) + (i2 : Int)) = ((m - (lo + i2) : Nat) : Int) := by omega
        refine ⟨rfl, _, rfl, _, rfl, _, rfl, _, _, rfl, rfl, cs, _, _, _, rfl, rfl, sm2.seq (sm.seq hcs), at_of ei (cl_iv (by omega)), _, _, rfl, rfl, _, rfl, ?_⟩
        refine ite2 (fun hg => ?_) (fun hg => ?_)
        · have hg' : 0 < cnt lo hi (m - (lo + i2)) := by
            have := of_decide_eq_true hg
            omega
          refine ⟨_, rfl, _, hD, ?_, same_put sm2 nD, ?_⟩
          · rw [List.length_map]
            have hwl : wide lo hi m ≤ 32 := by
              unfold wide
              omega
            exact small1000 (Nat.le_trans runsTo_len (by omega))
          · rw [upd_same, runsTo_yes hg', List.map_append]
            rfl
        · have hg' : ¬ 0 < cnt lo hi (m - (lo + i2)) := fun z => hg (decide_eq_true (by omega))
          refine ⟨sm2, ?_⟩
          rw [hD, runsTo_no hg']
      · rintro H2 ⟨sm2, hD⟩
        rw [runsTo_all] at hD
        have hrl := runs_some (K := hi) h1 hm1 hpos
        have hDl : SqL K H2 D (((runs lo hi m).map fun x : Nat => (x : Int)).map V.int) := SqL.of (by rw [hD, iv_map])
        have ho2 := sm2 _ _ ho
        have hbl : (b.map iv).length < sizeLine := by
          rw [List.length_map]
          exact small1000 (by omega)
        refine ⟨.ref o, rfl, .inl ⟨rfl, _, SqL.of ho2⟩, _, rfl, lst, rfl, ?_⟩
        cases lst with
        | true =>
          refine ⟨_, rfl, D, _, rfl, hDl, by rw [List.length_map]; exact hrl, fun z hz hle => ?_⟩
          obtain ⟨r, hr', rfl⟩ := List.mem_map.mp hz
          have hp : part lo hi m (r - lo) = 0 := least_part hr' fun y hy => by
            have := hle (y : Int) (List.mem_map.mpr ⟨y, hy, rfl⟩)
            omega
          have h0 := hl1 rfl
          obtain ⟨k1, k2, k3, k4⟩ := mem_runs.mp hr'
          refine ⟨o, _, _, rfl, rfl, ho2, hbl, ?_⟩
          refine ⟨_, rfl, _, rfl, 1, rfl, o, _, -1, _, rfl, rfl, SqL.of upd_same, atI_last _ _, _, _, rfl, rfl, ?_⟩
          refine ⟨m - r, by omega, b ++ [r], m - r, off + part lo hi m (r - lo), _, _, rfl, rfl, by dsimp only; omega, same_put (sm.trans sm2) no, ?_, ahead_more hA k1 k2 k3, fun _ => by omega, fun e => Bool.noConfusion e, k4, ?_⟩
          · rw [upd_same, List.map_append]
            rfl
          · rw [List.length_append]
            show b.length + 1 + _ ≤ n
            omega
        | false =>
          refine ⟨_, rfl, D, _, rfl, hDl, by rw [List.length_map]; exact hrl, fun z hz hle => ?_⟩
          obtain ⟨r, hr', rfl⟩ := List.mem_map.mp hz
          have hp := greatest_part h1 hr' fun y hy => by
            have := hle (y : Int) (List.mem_map.mpr ⟨y, hy, rfl⟩)
            omega
          have h0 := hl2 rfl
          obtain ⟨k1, k2, k3, k4⟩ := mem_runs.mp hr'
          refine ⟨o, _, _, rfl, rfl, ho2, hbl, ?_⟩
          refine ⟨_, rfl, _, rfl, 1, rfl, o, _, -1, _, rfl, rfl, SqL.of upd_same, atI_last _ _, _, _, rfl, rfl, ?_⟩
          refine ⟨m - r, by omega, b ++ [r], m - r, off + part lo hi m (r - lo), _, _, rfl, rfl, by dsimp only; omega, same_put (sm.trans sm2) no, ?_, ahead_more hA k1 k2 k3, fun e => Bool.noConfusion e, fun _ => by omega, k4, ?_⟩
          · rw [upd_same, List.map_append]
            rfl
          · rw [List.length_append]
            show b.length + 1 + _ ≤ n
            omega
    · have hl0 : m = 0 := by
        have hh : ¬ ((0 : Int) < (m : Int)) := fun z => hl (decide_eq_true z)
        omega
      subst hl0
      have hend := ahead_end hA
      refine ⟨_, rfl, o, _, rfl, .inl ⟨SqL.of ho, fun l nl => ?_⟩⟩
      refine q b l _ hend.1 (fun e => ?_) (fun e => ?_) (same_put sm (sm.free nl)) (sm.free nl) upd_same
      · rw [hend.2]
        exact hl1 e
      · rw [hend.2]
        exact hl2 e
end
end K42

namespace K42
open PySem PySem.Spec PyProof.Rows L2
abbrev sBag : Stmt := top 11
abbrev sTk : Stmt := top 12
abbrev sSm : Stmt := top 13
abbrev sCm : Stmt := top 15
abbrev sFr : Stmt := top 16
abbrev sSz : Stmt := top 17
abbrev sWd : Stmt := top 19
abbrev sNm : Stmt := top 21
/-! ### the bag: a list of three ints and the list of the script's ints -/
def BagAt (H : Hp) (g : Addr) : Prop := ∃ (x0 x1 x2 : Int) (c : Addr) (ns : List Int), H g = some (.lst [.int x0, .int x1, .int x2, .ref c]) ∧ H c = some (.lst (ns.map V.int)) ∧ c ≠ g ∧ ns.length ≤ 63
/-- all but the bag is as it was -/
def But (g : Addr) (H H' : Hp) : Prop := ∀ b o, b ≠ g → H b = some o → H' b = some o
theorem But.refl (g : Addr) (H : Hp) : But g H H := fun _ _ _ e => e
theorem But.trans {g : Addr} {H H1 H2 : Hp} (a : But g H H1) (b : But g H1 H2) : But g H H2 := fun c o n e => b c o n (a c o n e)
theorem But.put {g p : Addr} {H H' : Hp} {x : HO} (a : But g H H') (n : H' p = none) : But g H (upd H' p x) := fun c o h e => by
  have q := a c o h e
  rw [upd_ne (ne_of_none q n)]
  exact q
theorem But.set {g : Addr} {H H' : Hp} {x : HO} (a : But g H H') : But g H (upd H' g x) := fun c o h e => by
  rw [upd_ne h]
  exact a c o h e
theorem But.of {g : Addr} {H H' : Hp} (s : Same H H') : But g H H' := fun c o _ e => s c o e
theorem BagAt.same {g : Addr} {H H' : Hp} (b : BagAt H g) (s : Same H H') : BagAt H' g := by
  obtain ⟨x0, x1, x2, c, ns, h1, h2, h3, h4⟩ := b
  exact ⟨x0, x1, x2, c, ns, s _ _ h1, s _ _ h2, h3, h4⟩
theorem BagAt.put {g p : Addr} {H : Hp} {x : HO} (b : BagAt H g) (n : H p = none) : BagAt (upd H p x) g := b.same (same_put (Same.refl H) n)
theorem fmr (z : Int) {m : Int} (h : 0 < m) : 0 ≤ z.fmod m ∧ z.fmod m < m := by
  rw [Int.fmod_eq_emod_of_nonneg z (by omega)]
  exact ⟨Int.emod_nonneg z (by omega), Int.emod_lt_of_pos z h⟩
theorem head_int (xs : List Int) (i j : Option Int) : ∃ z : Int, (cutV (xs.map V.int) i j ++ [V.int 0])[0]? = some (V.int z) := by
  have h : ∃ ys : List Int, cutV (xs.map V.int) i j = ys.map V.int := by
    unfold cutV
    rw [← List.map_drop, ← List.map_take]
    exact ⟨_, rfl⟩
  obtain ⟨ys, e⟩ := h
  rw [e]
  cases ys with
  | nil => exact ⟨0, rfl⟩
  | cons y ys => exact ⟨y, rfl⟩
section
variable {P : Program} {w : World} {K : PySem.W.Frag} {mg : Str → Option Value} {base : Heap}
/-! ### _law_bag -/
def spBag (K : PySem.W.Frag) : Sp := fun vs H Q _ => ∃ (a : Addr) (ns : List Int), vs = [.ref a] ∧ SqL K H a (ns.map V.int) ∧ ∀ (g : Addr) (H' : Hp), Same H H' → BagAt H' g → Q (.ref g) H'
theorem scBag : FnScope ["_law_script", "_law_cell"] ["_law_script"] (defScope sBag) := ⟨rfl, rfl, rfl, by decide +kernel, rfl, by decide +kernel, by decide +kernel⟩
theorem ok_bag {f : Addr} {fd : FuncData} (F : Fun K "_law_bag" "_law_bag" sBag f fd) (B : TxB mg) : FnOk P w K mg base CX0 1 f fd ["_law_script"] (spBag K) := by
  refine F.ok scBag (fun vs H Q E h => ?_) (fun cdv A outer s H vs Q E hr h => ?_)
  · obtain ⟨a, ns, rfl, _⟩ := h
    rfl
  · obtain ⟨a, ns, rfl, hS, q⟩ := h
    refine ⟨_, pss_one (ps_ret (pe_lst (pa_cons pe_int (pa_cons pe_int (pa_cons pe_int (pa_cons
      (pe_lc (own := [("_law_cell", 1)]) (g := gName 1) (tt := tYes) rfl scBag.nd (pi_list (pe_slice sl_list (pv 0) po_none (po_some pe_int)))
        (blkOk_by (N := ["_law_script", "_law_cell"]) (sc := defScope sBag) (by decide +kernel)) (fun _ _ _ _ _ => pg_name (i := 1) scBag.nd rfl (Or.inl rfl)) (fun _ _ _ _ _ => pts_nil)
        (fun _ _ _ _ _ => pe_callB call_abs (by rfl) B.abs (by decide +kernel) (pa_cons (pv 1) pa_nil))) pa_nil)))))), ?_⟩
    refine ⟨_, rfl, 63, rfl, a, _, rfl, hS, fun t nt => ?_⟩
    have ht : (upd H t (.lst (cutV (ns.map V.int) none (some 63)))) t = some (.lst ((ns.take 63).map V.int)) := by
      rw [upd_same]
      unfold cutV
      rw [HT.sIx_none, show HT.sIx (ns.map V.int).length (ns.map V.int).length (some 63) = min 63 (ns.map V.int).length from HT.sIx_nat _ _ 63, List.drop_zero, Nat.sub_zero, List.map_take, ← List.take_eq_take_min]
    have s1 : Same H (upd H t (.lst (cutV (ns.map V.int) none (some 63)))) := same_put (Same.refl H) nt
    refine ⟨t, rfl, ⟨_, SqL.of ht⟩, fun D nD => ?_⟩
    refine lc_list (K := K) (a := t) (xs := (ns.take 63).map V.int) (fun i H' => Same (upd H t (.lst (cutV (ns.map V.int) none (some 63)))) H' ∧ ∃ ms : List Int, ms.length = i ∧ H' D = some (.lst (ms.map V.int))) ⟨same_put (Same.refl _) nD, [], rfl, upd_same⟩ (fun i H' _ ⟨sm, _⟩ => sm.seq (SqL.of ht)) ?_ ?_
    · rintro i x H' hi ⟨sm, ms, hm, hD⟩
      have hlt : i < ((ns.take 63).map V.int).length := (List.getElem?_eq_some_iff.mp hi).1
      rw [List.length_map, List.length_take] at hlt
      obtain ⟨z, rfl⟩ : ∃ z : Int, x = V.int z := by
        rw [List.getElem?_map] at hi
        cases e : (ns.take 63)[i]? with
        | none =>
          rw [e] at hi
          cases hi
        | some z =>
          rw [e] at hi
          exact ⟨z, (Option.some.inj hi).symm⟩
      refine ⟨rfl, _, rfl, z, rfl, _, hD, ?_, same_put sm nD, ms ++ [if z < 0 then -z else z], ?_, ?_⟩
      · rw [List.length_map]
        exact small1000 (by omega)
      · rw [List.length_append, hm]
        rfl
      · rw [upd_same, List.map_append]
        rfl
    · rintro H' ⟨sm, ms, hm, hD⟩
      refine ⟨by show 4 ≤ sizeLine; decide, fun g ng => ?_⟩
      refine q g _ (s1.trans (same_put sm (sm.free ng))) ⟨0, 1234567891, 0, D, ms, upd_same, ?_, ?_, ?_⟩
      · rw [upd_ne (ne_of_none hD ng)]
        exact hD
      · exact ne_of_none hD ng
      · rw [hm, List.length_map, List.length_take]
        omega
/-! ### _law_take -/
def spTk : Sp := fun vs H Q _ => ∃ (g : Addr) (many : Int), vs = [.ref g, .int many] ∧ BagAt H g ∧ 1 ≤ many ∧ many < 1073741824 ∧ ∀ (r : Int) (H' : Hp), 0 ≤ r → r < many → BagAt H' g → But g H H' → Q (.int r) H'
theorem scTk : FnScope ["_law_bag_here", "_law_many", "_law_cell", "_law_stirred", "_law_value", "_law_begin", "_law_second"] ["_law_bag_here", "_law_many"] (defScope sTk) := ⟨rfl, rfl, rfl, by decide +kernel, rfl, by decide +kernel, by decide +kernel⟩
theorem ok_tk {f : Addr} {fd : FuncData} (F : Fun K "_law_take" "_law_take" sTk f fd) (B : TxB mg) : FnOk P w K mg base CX0 1 f fd ["_law_bag_here", "_law_many"] spTk := by
  refine F.ok scTk (fun vs H Q E h => ?_) (fun cdv A outer s H vs Q E hr h => ?_)
  · obtain ⟨g, many, rfl, _⟩ := h
    rfl
  · obtain ⟨g, many, rfl, hB, m1, m2, q⟩ := h
    refine ⟨_, C8.pss_cut (ps_if (pt_cmpR op_eq (pe_ix ix_list (pv 0) pe_int (fun _ _ => rfl)) pe_int (nomark _))
        (pss_cons (ps_set (i := 2) scTk.nd rfl (.inl rfl) (pe_ix ix_list (pe_op op_cat (pe_slice sl_list (pe_ix ix_list (pv 0) pe_int (fun _ _ => rfl)) (po_some (pe_ix ix_list (pv 0) pe_int (fun _ _ => rfl))) po_none) (pe_lst (pa_cons pe_int pa_nil))) pe_int (fun _ _ => rfl)))
        (pss_cons (ps_augS (pv 0) pe_int get_lst pe_int ip_add set_list)
        (C8.pss_cut (ps_if (pt_cmpR op_ge (pv 2) (pe_op op_pow pe_int pe_int) (nomark _)) (pss_one (ps_asg (pv 2) (pg_sub (pv 0) pe_int set_list))) pss_nil)
        (pss_cons (ps_set (i := 3) scTk.nd rfl (.inl rfl) (pe_op op_add (pe_op op_add (pe_op op_mul (pe_ix ix_list (pv 0) pe_int (fun _ _ => rfl)) pe_int) (pe_op op_modN (pe_callTy call_int1 (by rfl) B.int (by decide +kernel) (pa_cons (pv 2) pa_nil)) pe_int)) (pe_op op_mul pe_int (pe_ix ix_list (pv 0) pe_int (fun _ _ => rfl)))))
        (pss_one (ps_asg (pe_op op_modN (pe_callTy call_int1 (by rfl) B.int (by decide +kernel) (pa_cons (pv 3) pa_nil)) pe_int) (pg_sub (pv 0) pe_int set_list))))))) pss_nil)
      (pss_cons (ps_if (pt_cmpR op_gt (pe_ix ix_list (pv 0) pe_int (fun _ _ => rfl)) pe_int (nomark _))
        (pss_cons (ps_set (i := 4) scTk.nd rfl (.inl rfl) (pe_op op_modN (pe_callTy call_int1 (by rfl) B.int (by decide +kernel) (pa_cons (pe_ix ix_list (pv 0) pe_int (fun _ _ => rfl)) pa_nil)) (pv 1)))
        (pss_cons (ps_asg (pe_op op_fdivN (pe_callTy call_int1 (by rfl) B.int (by decide +kernel) (pa_cons (pe_ix ix_list (pv 0) pe_int (fun _ _ => rfl)) pa_nil)) (pv 1)) (pg_sub (pv 0) pe_int set_list))
        (pss_one (ps_ret (pv 4))))) pss_nil)
      (pss_cons (ps_set (i := 5) scTk.nd rfl (.inl rfl) (pe_op op_modN (pe_callTy call_int1 (by rfl) B.int (by decide +kernel) (pa_cons (pe_op op_mul (pe_op op_add (pe_ix ix_list (pv 0) pe_int (fun _ _ => rfl)) pe_int) pe_int) pa_nil)) pe_int))
      (pss_cons (ps_set (i := 6) scTk.nd rfl (.inl rfl) (pe_op op_modN (pe_callTy call_int1 (by rfl) B.int (by decide +kernel) (pa_cons (pe_op op_mul (pe_op op_modN (pe_callTy call_int1 (by rfl) B.int (by decide +kernel) (pa_cons (pe_op op_mul (pv 5) (pv 5)) pa_nil)) pe_int) pe_int) pa_nil)) pe_int))
      (pss_one (ps_ret (pe_op op_modN (pe_callTy call_int1 (by rfl) B.int (by decide +kernel) (pa_cons (pe_op op_fdivN (pv 6) pe_int) pa_nil)) (pv 1))))))), ?_⟩
    have i0 : ∀ (a b c d : V), atI [a, b, c, d] 0 = some a := fun _ _ _ _ => rfl
    have i1 : ∀ (a b c d : V), atI [a, b, c, d] 1 = some b := fun _ _ _ _ => rfl
    have i2 : ∀ (a b c d : V), atI [a, b, c, d] 2 = some c := fun _ _ _ _ => rfl
    have i3 : ∀ (a b c d : V), atI [a, b, c, d] 3 = some d := fun _ _ _ _ => rfl
    refine ⟨fun σ H' => ∃ y2 y3 : Option V, σ = [some (.ref g), some (.int many), y2, y3, none, none, none] ∧ BagAt H' g ∧ But g H H', ?_, ?_⟩
    · obtain ⟨x0, x1, x2, c, ns, hg, hc, ncg, hlen⟩ := id hB
      refine ⟨_, rfl, g, _, _, _, rfl, rfl, SqL.of hg, i0 _ _ _ _, rfl, _, rfl, ?_⟩
      refine ite2 (fun _ => ?_) (fun _ => ?_)
      · -- _law_cell
        refine ⟨_, rfl, g, _, _, _, rfl, rfl, SqL.of hg, i3 _ _ _ _, _, rfl, g, _, _, _, rfl, rfl, SqL.of hg, i2 _ _ _ _, x2, rfl, c, _, rfl, SqL.of hc, fun t nt => ?_⟩
        refine ⟨by show 1 ≤ sizeLine; decide, fun u nu => ?_⟩
        have htu : t ≠ u := fun e => by
          rw [← e, upd_same] at nu
          cases nu
        refine ⟨t, u, _, _, rfl, rfl, (upd_ne htu).trans upd_same, upd_same, ?_, fun p np => ?_⟩
        · have hz := cutV_length (ns.map V.int) (some x2) none
          rw [List.length_map] at hz
          show _ + 1 ≤ sizeLine
          rw [sizeLine_eq]
          omega
        obtain ⟨z, hz⟩ := head_int ns (some x2) none
        refine ⟨p, _, 0, _, rfl, rfl, SqL.of upd_same, at_of (j := 0) rfl hz, ?_⟩
        have nt' : (upd H t (.lst (cutV (ns.map V.int) (some x2) none))) u = none := nu
        have b1 : But g H (upd (upd (upd H t (.lst (cutV (ns.map V.int) (some x2) none))) u (.lst [.int 0])) p (.lst (cutV (ns.map V.int) (some x2) none ++ [V.int 0]))) := ((But.refl g H).put nt |>.put nu).put np
        have s1 : Same H (upd (upd (upd H t (.lst (cutV (ns.map V.int) (some x2) none))) u (.lst [.int 0])) p (.lst (cutV (ns.map V.int) (some x2) none ++ [V.int 0]))) :=
          (same_put (Same.refl H) nt).trans ((same_put (Same.refl _) nu).trans (same_put (Same.refl _) np))
        generalize upd (upd (upd H t (.lst (cutV (ns.map V.int) (some x2) none))) u (.lst [.int 0])) p (.lst (cutV (ns.map V.int) (some x2) none ++ [V.int 0])) = H1 at b1 s1 ⊢
        have hg1 := s1 _ _ hg
        have hc1 := s1 _ _ hc
        -- bag[2] += 1
        refine ⟨_, rfl, g, _, 2, _, rfl, rfl, SqL.of hg1, rfl, _, _, rfl, rfl, g, _, _, _, rfl, rfl, hg1, rfl, ?_⟩
        -- if cell >= 10 ** 18
        refine ⟨fun σ H' => σ = [some (.ref g), some (.int many), some (.int z), none, none, none, none] ∧ ∃ (y0 y1 y2 : Int), H' g = some (.lst [.int y0, .int y1, .int y2, .ref c]) ∧ H' c = some (.lst (ns.map V.int)) ∧ But g H H', ?_, ?_⟩
        · refine ⟨_, rfl, _, _, rfl, rfl, ⟨by decide, by decide, by decide⟩, _, _, rfl, rfl, _, rfl, ?_⟩
          refine ite2 (fun _ => ?_) (fun _ => ?_)
          · refine ⟨_, rfl, _, rfl, g, _, _, _, rfl, rfl, upd_same, rfl, rfl, z, x1, x2 + 1, upd_same, ?_, b1.set.set⟩
            rw [upd_ne ncg, upd_ne ncg]
            exact hc1
          · refine ⟨rfl, x0, x1, x2 + 1, upd_same, ?_, b1.set⟩
            rw [upd_ne ncg]
            exact hc1
        · rintro σ H2 ⟨rfl, y0, y1, y2, hg2, hc2, b2⟩
          refine ⟨_, rfl, g, _, _, _, rfl, rfl, SqL.of hg2, i1 _ _ _ _, _, _, rfl, rfl, Or.inr ⟨by decide, by decide⟩, _, rfl, .inl ⟨z, rfl, _, _, rfl, rfl, (show (2147483647 : Int) ≠ 0 by decide), _, _, rfl, rfl, _, rfl, g, _, _, _, rfl, rfl, SqL.of hg2, i2 _ _ _ _, _, _, rfl, rfl, Or.inl ⟨by decide, by decide⟩, _, _, rfl, rfl, ?_⟩⟩
          refine ⟨_, rfl, .inl ⟨_, rfl, _, _, rfl, rfl, (show (2147483647 : Int) ≠ 0 by decide), _, rfl, g, _, _, _, rfl, rfl, hg2, rfl, ?_⟩⟩
          refine ⟨_, _, rfl, ⟨y0, _, y2, c, ns, upd_same, ?_, ncg, hlen⟩, b2.set⟩
          rw [upd_ne ncg]
          exact hc2
      · exact ⟨none, none, rfl, hB, But.refl g H⟩
    · rintro σ H1 ⟨y2, y3, rfl, hB1, b1⟩
      obtain ⟨x0, x1, x2, c, ns, hg, hc, ncg, hlen⟩ := id hB1
      refine ⟨_, rfl, g, _, _, _, rfl, rfl, SqL.of hg, i0 _ _ _ _, _, _, rfl, rfl, _, rfl, ?_⟩
      refine ite2 (fun _ => ?_) (fun _ => ?_)
      · refine ⟨_, rfl, g, _, _, _, rfl, rfl, SqL.of hg, i0 _ _ _ _, .inl ⟨_, rfl, _, rfl, _, _, rfl, rfl, by omega, ?_⟩⟩
        refine ⟨_, rfl, g, _, _, _, rfl, rfl, SqL.of hg, i0 _ _ _ _, .inl ⟨_, rfl, _, rfl, _, _, rfl, rfl, ⟨by omega, by omega⟩, ?_⟩⟩
        refine ⟨_, rfl, g, _, _, _, rfl, rfl, hg, rfl, ?_⟩
        refine ⟨_, rfl, ?_⟩
        have fr := fmr x0 (m := many) (by omega)
        refine q _ _ fr.1 fr.2 ⟨_, x1, x2, c, ns, upd_same, ?_, ncg, hlen⟩ b1.set
        rw [upd_ne ncg]
        exact hc
      · refine ⟨_, rfl, g, _, _, _, rfl, rfl, SqL.of hg, i1 _ _ _ _, _, _, rfl, rfl, _, _, rfl, rfl, Or.inr ⟨by decide, by decide⟩, .inl ⟨_, rfl, _, _, rfl, rfl, (show (1000000007 : Int) ≠ 0 by decide), ?_⟩⟩
        have f1 := fmr ((x1 + 1) * 39373) (m := 1000000007) (by decide)
        refine ⟨_, rfl, _, rfl, _, _, rfl, rfl, Or.inl ⟨?_, ?_⟩, .inl ⟨_, rfl, _, _, rfl, rfl, (show (998244353 : Int) ≠ 0 by decide), _, _, rfl, rfl, Or.inr ⟨by decide, by decide⟩, .inl ⟨_, rfl, _, _, rfl, rfl, (show (998244353 : Int) ≠ 0 by decide), ?_⟩⟩⟩
        · exact Int.lt_of_lt_of_le (by decide) f1.1
        · exact Int.lt_trans f1.2 (by decide)
        refine ⟨_, rfl, _, _, rfl, rfl, ⟨by decide, by decide⟩, .inl ⟨_, rfl, _, rfl, _, _, rfl, rfl, by omega, ?_⟩⟩
        have fr := fmr ((Int.fmod (Int.fmod (Int.fmod ((x1 + 1) * 39373) 1000000007 * Int.fmod ((x1 + 1) * 39373) 1000000007) 998244353 * 30011) 998244353).fdiv 7) (m := many) (by omega)
        exact q _ _ fr.1 fr.2 hB1 b1
end
end K42

namespace K42
open PySem PySem.Spec PyProof.Rows L2
theorem mem_ints {v : V} {l : List Int} (h : v ∈ l.map V.int) : ∃ z : Int, z ∈ l ∧ v = .int z := by
  obtain ⟨z, hz, e⟩ := List.mem_map.mp h
  exact ⟨z, hz, e.symm⟩
/-- the list that a display has laid stands through a change of the bag -/
theorem But.lst {g t : Addr} {H H' : Hp} {xs : List V} (b : But g H H') (n : t ≠ g) (h : H t = some (.lst xs)) : H' t = some (.lst xs) := b t _ n h
theorem BagAt.ne {g t : Addr} {H : Hp} (b : BagAt H g) (n : H t = none) : t ≠ g := fun e => by
  obtain ⟨x0, x1, x2, c, ns, h1, _⟩ := b
  rw [e, h1] at n
  cases n
section
variable {P : Program} {w : World} {K : PySem.W.Frag} {mg : Str → Option Value} {base : Heap}
/-! ### _law_some -/
def spSm : Sp := fun vs H Q _ => ∃ (g t : Addr) (xs : List V), vs = [.ref g, .ref t] ∧ BagAt H g ∧ H t = some (.lst xs) ∧ t ≠ g ∧ 1 ≤ xs.length ∧ xs.length ≤ 1000 ∧ ∀ (v : V) (H' : Hp), v ∈ xs → BagAt H' g → But g H H' → Q v H'
theorem scSm : FnScope ["_law_bag_here", "_law_things"] ["_law_bag_here", "_law_things"] (defScope sSm) := ⟨rfl, rfl, rfl, by decide +kernel, rfl, by decide +kernel, by decide +kernel⟩
theorem ok_sm {f fT : Addr} {fd fdT : FuncData} (F : Fun K "_law_some" "_law_some" sSm f fd) (B : TxB mg) (GT : FnOk P w K mg base CX0 1 fT fdT ["_law_bag_here", "_law_many"] spTk) (gT : mg "_law_take" = some (.ref fT)) (kT : PySem.W.keepIn K (.ref fT) = true) (bT : Binds K fdT ["_law_bag_here", "_law_many"] []) :
    FnOk P w K mg base CX0 2 f fd ["_law_bag_here", "_law_things"] spSm := by
  refine F.ok scSm (fun vs H Q E h => ?_) (fun cdv A outer s H vs Q E hr h => ?_)
  · obtain ⟨g, t, xs, rfl, _⟩ := h
    rfl
  · obtain ⟨g, t, xs, rfl, hB, ht, ntg, l1, l2, q⟩ := h
    refine ⟨_, pss_one (ps_ret (pe_ix ix_list (pv 1) (pe_call GT hr rfl gT kT bT .nil pass0 (pa_cons (pv 0) (pa_cons (pe_callB call_len_seq (by rfl) B.len PySem.boot_len (pa_cons (pv 1) pa_nil)) pa_nil))) (fun _ _ => rfl))), ?_⟩
    refine ⟨_, rfl, _, rfl, _, rfl, t, xs, rfl, .inl (SqL.of ht), g, (xs.length : Int), rfl, hB, by omega, by omega, fun r H' r0 r1 hB' b => ?_⟩
    obtain ⟨j, rfl⟩ : ∃ j : Nat, r = (j : Int) := ⟨r.toNat, by omega⟩
    have hj : j < xs.length := by omega
    exact ⟨t, xs, _, xs[j], rfl, rfl, SqL.of (b.lst ntg ht), atI_nat (List.getElem?_eq_getElem hj), q _ H' (List.getElem_mem hj) hB' b⟩
/-! ### _law_common, _law_fraction -/
def spCm : Sp := fun vs H Q _ => ∃ a b : Int, vs = [.int a, .int b] ∧ 0 ≤ a ∧ a ≤ 10 ∧ 1 ≤ b ∧ b ≤ 10 ∧ ∀ z : Int, 1 ≤ z → z ≤ 10 → Q (.int z) H
theorem scCm : FnScope ["_law_one", "_law_other"] ["_law_one", "_law_other"] (defScope sCm) := ⟨rfl, rfl, rfl, by decide +kernel, rfl, by decide +kernel, by decide +kernel⟩
theorem ok_cm {f : Addr} {fd : FuncData} (F : Fun K "_law_common" "_law_common" sCm f fd) (B : TxB mg) : FnOk P w K mg base CX0 1 f fd ["_law_one", "_law_other"] spCm := by
  refine F.ok scCm (fun vs H Q E h => ?_) (fun cdv A outer s H vs Q E hr h => ?_)
  · obtain ⟨a, b, rfl, _⟩ := h
    rfl
  · obtain ⟨a, b, rfl, a0, a1, b0, b1, q⟩ := h
    refine ⟨_, pss_cons (ps_par (i := 0) (j := 1) rfl scCm.nd rfl rfl (by decide) rfl rfl (pa_cons (pe_callB call_abs (by rfl) B.abs (by decide +kernel) (pa_cons (pv 0) pa_nil)) (pa_cons (pe_callB call_abs (by rfl) B.abs (by decide +kernel) (pa_cons (pv 1) pa_nil)) pa_nil)) (by rfl))
      (pss_cons (ps_while PassesOwn.never (pt_cmpR op_gt (pv 1) pe_int (nomark _))
        (pss_one (ps_par (i := 0) (j := 1) rfl scCm.nd rfl rfl (by decide) rfl rfl (pa_cons (pv 1) (pa_cons (pe_op op_modN (pe_callTy call_int1 (by rfl) B.int (by decide +kernel) (pa_cons (pv 0) pa_nil)) (pv 1)) pa_nil)) (by rfl))))
      (pss_one (ps_ret (pv 0)))), ?_⟩
    refine ⟨_, rfl, a, rfl, _, rfl, b, rfl, _, _, rfl, ?_⟩
    rw [if_neg (show ¬ a < 0 by omega), if_neg (show ¬ b < 0 by omega)]
    refine ⟨fun m σ H' => ∃ x y : Int, m = y.toNat ∧ σ = [some (.int x), some (.int y)] ∧ H' = H ∧ 0 ≤ x ∧ x ≤ 10 ∧ 0 ≤ y ∧ y ≤ 10 ∧ 1 ≤ x + y, ⟨_, a, b, rfl, rfl, rfl, a0, a1, by omega, b1, by omega⟩, ?_⟩
    rintro m σ H' ⟨x, y, rfl, rfl, rfl, x0, x1, y0, y1, xy⟩
    refine ⟨_, rfl, _, _, rfl, rfl, _, rfl, ?_⟩
    refine ite2 (fun hc => ?_) (fun hc => ?_)
    · have hy : 0 < y := of_decide_eq_true hc
      have f1 := fmr x hy
      refine ⟨_, fun _ _ z => z, ?_⟩
      refine ⟨_, rfl, _, rfl, .inl ⟨_, rfl, _, rfl, _, _, rfl, rfl, by omega, _, _, rfl, ?_⟩⟩
      exact ⟨(x.fmod y).toNat, by omega, y, x.fmod y, rfl, rfl, rfl, by omega, by omega, by omega, by omega, by omega⟩
    · have hy : ¬ 0 < y := fun z => hc (decide_eq_true z)
      exact ⟨_, rfl, q x (by omega) x1⟩
def spFr : Sp := fun vs H Q _ => ∃ a b : Int, vs = [.int a, .int b] ∧ 0 ≤ a ∧ a ≤ 10 ∧ 1 ≤ b ∧ b ≤ 10 ∧ ∀ (p : Addr) (H' : Hp), Same H H' → Q (.ref p) H'
theorem scFr : FnScope ["_law_n", "_law_d", "_law_shared"] ["_law_n", "_law_d"] (defScope sFr) := ⟨rfl, rfl, rfl, by decide +kernel, rfl, by decide +kernel, by decide +kernel⟩
theorem ok_fr {f fC : Addr} {fd fdC : FuncData} (F : Fun K "_law_fraction" "_law_fraction" sFr f fd) (B : TxB mg) (GC : FnOk P w K mg base CX0 1 fC fdC ["_law_one", "_law_other"] spCm) (gC : mg "_law_common" = some (.ref fC)) (kC : PySem.W.keepIn K (.ref fC) = true) (bC : Binds K fdC ["_law_one", "_law_other"] []) :
    FnOk P w K mg base CX0 2 f fd ["_law_n", "_law_d"] spFr := by
  refine F.ok scFr (fun vs H Q E h => ?_) (fun cdv A outer s H vs Q E hr h => ?_)
  · obtain ⟨a, b, rfl, _⟩ := h
    rfl
  · obtain ⟨a, b, rfl, a0, a1, b0, b1, q⟩ := h
    refine ⟨_, pss_cons (ps_set (i := 2) scFr.nd rfl (.inl rfl) (pe_ifExp (pt_cmpR op_gt (pv 1) pe_int (nomark _))
        (pe_call GC hr rfl gC kC bC .nil pass0 (pa_cons (pv 0) (pa_cons (pv 1) pa_nil))) (pe_un un_neg (pe_call GC hr rfl gC kC bC .nil pass0 (pa_cons (pv 0) (pa_cons (pv 1) pa_nil))))))
      (pss_one (ps_ret (pe_tup (pa_cons (pe_op op_fdivN (pe_callTy call_int1 (by rfl) B.int (by decide +kernel) (pa_cons (pv 0) pa_nil)) (pv 2))
        (pa_cons (pe_op op_fdivN (pe_callTy call_int1 (by rfl) B.int (by decide +kernel) (pa_cons (pv 1) pa_nil)) (pv 2)) pa_nil))))), ?_⟩
    refine ⟨_, rfl, _, _, rfl, rfl, _, rfl, ?_⟩
    rw [decide_eq_true (show (0 : Int) < b by omega)]
    refine ⟨_, rfl, _, rfl, a, b, rfl, a0, a1, b0, b1, fun z z0 z1 => ?_⟩
    refine ⟨_, rfl, .inl ⟨_, rfl, _, rfl, _, _, rfl, rfl, ⟨by omega, by omega⟩, _, rfl, .inl ⟨_, rfl, _, rfl, _, _, rfl, rfl, ⟨by omega, by omega⟩, by show 2 ≤ sizeLine; decide, fun p np => ?_⟩⟩⟩
    exact q p _ (same_put (Same.refl H) np)
/-! ### _law_size -/
def spSz : Sp := fun vs H Q _ => ∃ g : Addr, vs = [.ref g] ∧ BagAt H g ∧ ∀ (p : Addr) (H' : Hp), BagAt H' g → But g H H' → Q (.ref p) H'
theorem scSz : FnScope ["_law_bag_here"] ["_law_bag_here"] (defScope sSz) := ⟨rfl, rfl, rfl, by decide +kernel, rfl, by decide +kernel, by decide +kernel⟩
theorem ok_sz {f fS fF : Addr} {fd fdS fdF : FuncData} (F : Fun K "_law_size" "_law_size" sSz f fd) (GS : FnOk P w K mg base CX0 2 fS fdS ["_law_bag_here", "_law_things"] spSm) (gS : mg "_law_some" = some (.ref fS)) (kS : PySem.W.keepIn K (.ref fS) = true) (bS : Binds K fdS ["_law_bag_here", "_law_things"] [])
    (GF : FnOk P w K mg base CX0 2 fF fdF ["_law_n", "_law_d"] spFr) (gF : mg "_law_fraction" = some (.ref fF)) (kF : PySem.W.keepIn K (.ref fF) = true) (bF : Binds K fdF ["_law_n", "_law_d"] []) :
    FnOk P w K mg base CX0 3 f fd ["_law_bag_here"] spSz := by
  refine F.ok scSz (fun vs H Q E h => ?_) (fun cdv A outer s H vs Q E hr h => ?_)
  · obtain ⟨g, rfl, _⟩ := h
    rfl
  · obtain ⟨g, rfl, hB, q⟩ := h
    refine ⟨_, pss_one (ps_ret (pe_call GF hr rfl gF kF bF .nil pass0 (pa_cons
        (pe_call GS hr rfl gS kS bS .nil pass0 (pa_cons (pv 0) (pa_cons (pe_lst (pa_cons pe_int (pa_cons pe_int (pa_cons pe_int (pa_cons pe_int (pa_cons pe_int (pa_cons pe_int pa_nil))))))) pa_nil)))
        (pa_cons (pe_call GS hr rfl gS kS bS .nil pass0 (pa_cons (pv 0) (pa_cons (pe_lst (pa_cons pe_int (pa_cons pe_int (pa_cons pe_int (pa_cons pe_int (pa_cons pe_int pa_nil)))))) pa_nil))) pa_nil)))), ?_⟩
    refine ⟨_, rfl, by show 6 ≤ sizeLine; decide, fun t nt => ?_⟩
    refine ⟨g, t, _, rfl, hB.put nt, upd_same, hB.ne nt, by decide, by decide, fun v H1 hv hB1 b1 => ?_⟩
    refine ⟨_, rfl, by show 5 ≤ sizeLine; decide, fun u nu => ?_⟩
    refine ⟨g, u, _, rfl, hB1.put nu, upd_same, hB1.ne nu, by decide, by decide, fun v2 H2 hv2 hB2 b2 => ?_⟩
    obtain ⟨a, ha, rfl⟩ := mem_ints (l := [1, 0, 3, 1, 2, 5]) hv
    obtain ⟨b, hb, rfl⟩ := mem_ints (l := [1, 2, 4, 3, 10]) hv2
    have ra : ∀ z ∈ ([1, 0, 3, 1, 2, 5] : List Int), 0 ≤ z ∧ z ≤ 10 := by decide
    have rb : ∀ z ∈ ([1, 2, 4, 3, 10] : List Int), 1 ≤ z ∧ z ≤ 10 := by decide
    refine ⟨a, b, rfl, (ra a ha).1, (ra a ha).2, (rb b hb).1, (rb b hb).2, fun p H3 s3 => ?_⟩
    exact q p H3 (hB2.same s3) ((((But.refl g H).put nt).trans b1).trans (((But.refl g H1).put nu).trans (b2.trans (But.of s3))))
/-! ### _law_wide -/
def spWd : Sp := fun vs H Q _ => ∃ g : Addr, vs = [.ref g] ∧ BagAt H g ∧ ∀ (p : Addr) (H' : Hp) (lo hi : Nat) (xs : List V), 1 ≤ lo → lo ≤ hi → hi ≤ 16 → BagAt H' g → But g H H' → H' p = some (.tup xs) → xs[3]? = some (iv lo) → xs[4]? = some (iv hi) → Q (.ref p) H'
theorem scWd : FnScope ["_law_bag_here", "_law_lo", "_law_most"] ["_law_bag_here"] (defScope sWd) := ⟨rfl, rfl, rfl, by decide +kernel, rfl, by decide +kernel, by decide +kernel⟩
theorem ok_wd {f fS fT fZ : Addr} {fd fdS fdT fdZ : FuncData} (F : Fun K "_law_wide" "_law_wide" sWd f fd) (B : TxB mg) (GT : FnOk P w K mg base CX0 1 fT fdT ["_law_bag_here", "_law_many"] spTk) (gT : mg "_law_take" = some (.ref fT)) (kT : PySem.W.keepIn K (.ref fT) = true) (bT : Binds K fdT ["_law_bag_here", "_law_many"] [])
    (GS : FnOk P w K mg base CX0 2 fS fdS ["_law_bag_here", "_law_things"] spSm) (gS : mg "_law_some" = some (.ref fS)) (kS : PySem.W.keepIn K (.ref fS) = true) (bS : Binds K fdS ["_law_bag_here", "_law_things"] [])
    (GZ : FnOk P w K mg base CX0 3 fZ fdZ ["_law_bag_here"] spSz) (gZ : mg "_law_size" = some (.ref fZ)) (kZ : PySem.W.keepIn K (.ref fZ) = true) (bZ : Binds K fdZ ["_law_bag_here"] []) :
    FnOk P w K mg base CX0 4 f fd ["_law_bag_here"] spWd := by
  refine F.ok scWd (fun vs H Q E h => ?_) (fun cdv A outer s H vs Q E hr h => ?_)
  · obtain ⟨g, rfl, _⟩ := h
    rfl
  · obtain ⟨g, rfl, hB, q⟩ := h
    have hr1 : Room 1 _ := hr.mono (by decide)
    have hr2 : Room 2 _ := hr.mono (by decide)
    refine ⟨_, pss_cons (ps_set (i := 1) scWd.nd rfl (.inl rfl) (pe_op op_add pe_int (pe_call GS hr2 rfl gS kS bS .nil pass0 (pa_cons (pv 0) (pa_cons (pe_lst (pa_cons pe_int (pa_cons pe_int (pa_cons pe_int (pa_cons (pe_call GT hr1 rfl gT kT bT .nil pass0 (pa_cons (pv 0) (pa_cons pe_int pa_nil))) pa_nil))))) pa_nil)))))
      (pss_cons (ps_set (i := 2) scWd.nd rfl (.inl rfl) (pe_callB (call_min2 rfl) (by rfl) B.min (by decide +kernel) (pa_cons pe_int (pa_cons (pe_op op_add (pv 1) (pe_call GS hr2 rfl gS kS bS .nil pass0 (pa_cons (pv 0) (pa_cons (pe_lst (pa_cons pe_int (pa_cons pe_int (pa_cons pe_int (pa_cons pe_int (pa_cons pe_int (pa_cons pe_int pa_nil))))))) pa_nil)))) pa_nil))))
      (pss_one (ps_ret (pe_tup (pa_cons (pe_op op_add pe_int (pe_call GT hr1 rfl gT kT bT .nil pass0 (pa_cons (pv 0) (pa_cons pe_int pa_nil)))) (pa_cons (pe_call GZ hr rfl gZ kZ bZ .nil pass0 (pa_cons (pv 0) pa_nil)) (pa_cons (pe_call GZ hr rfl gZ kZ bZ .nil pass0 (pa_cons (pv 0) pa_nil))
        (pa_cons (pv 1) (pa_cons (pv 2) (pa_cons (pe_op op_add pe_int (pe_call GT hr1 rfl gT kT bT .nil pass0 (pa_cons (pv 0) (pa_cons pe_int pa_nil)))) pa_nil)))))))))), ?_⟩
    -- _law_lo
    refine ⟨_, rfl, _, rfl, g, 16, rfl, hB, by decide, by decide, fun r H1 r0 r1 hB1 b1 => ?_⟩
    refine ⟨by show 4 ≤ sizeLine; decide, fun t nt => ?_⟩
    refine ⟨g, t, _, rfl, hB1.put nt, upd_same, hB1.ne nt, by show 1 ≤ 4; decide, by show 4 ≤ 1000; decide, fun v H2 hv hB2 b2 => ?_⟩
    obtain ⟨a, ha, rfl⟩ := mem_ints (l := [0, 1, 2, r]) hv
    have ra : 0 ≤ a ∧ a ≤ 15 := by
      simp only [List.mem_cons, List.not_mem_nil, or_false] at ha
      omega
    refine ⟨_, _, rfl, rfl, ?_⟩
    -- _law_most
    refine ⟨_, rfl, _, rfl, by show 6 ≤ sizeLine; decide, fun u nu => ?_⟩
    refine ⟨g, u, _, rfl, hB2.put nu, upd_same, hB2.ne nu, by show 1 ≤ 6; decide, by show 6 ≤ 1000; decide, fun v2 H3 hv2 hB3 b3 => ?_⟩
    obtain ⟨b, hb, rfl⟩ := mem_ints (l := [1, 0, 1, 2, 5, 15]) hv2
    have rb : ∀ z ∈ ([1, 0, 1, 2, 5, 15] : List Int), 0 ≤ z ∧ z ≤ 15 := by decide
    have rb := rb b hb
    refine ⟨_, _, rfl, rfl, _, _, rfl, ?_⟩
    -- the tuple
    refine ⟨_, rfl, g, 40, rfl, hB3, by decide, by decide, fun r2 H4 _ _ hB4 b4 => ⟨_, _, rfl, rfl, ?_⟩⟩
    refine ⟨_, rfl, g, rfl, hB4, fun p1 H5 hB5 b5 => ?_⟩
    refine ⟨_, rfl, g, rfl, hB5, fun p2 H6 hB6 b6 => ?_⟩
    refine ⟨_, rfl, _, rfl, _, rfl, g, 8, rfl, hB6, by decide, by decide, fun r3 H7 _ _ hB7 b7 => ⟨_, _, rfl, rfl, by show 6 ≤ sizeLine; decide, fun p np => ?_⟩⟩
    have bb : But g H H7 := b1.trans ((((But.refl g H1).put nt).trans b2).trans ((((But.refl g H2).put nu).trans b3).trans (b4.trans (b5.trans (b6.trans b7)))))
    refine q p _ (1 + a).toNat (if 1 + a + b < 16 then 1 + a + b else 16).toNat _ (by omega) (by split <;> omega) (by split <;> omega) (hB7.put np) (bb.put np) upd_same ?_ ?_
    · show some (V.int (1 + a)) = some (V.int (((1 + a).toNat : Nat) : Int))
      rw [Int.toNat_of_nonneg (by omega)]
    · show some (V.int (if 1 + a + b < 16 then 1 + a + b else 16)) = some (V.int (((if 1 + a + b < 16 then 1 + a + b else 16).toNat : Nat) : Int))
      rw [Int.toNat_of_nonneg (by split <;> omega)]
/-! ### _law_number -/
def spNm : Sp := fun vs H Q _ => ∃ (g : Addr) (most : Nat), vs = [.ref g, iv most] ∧ BagAt H g ∧ 1 ≤ most ∧ ∀ (k : Nat) (H' : Hp), k < most → BagAt H' g → But g H H' → Q (iv k) H'
theorem scNm : FnScope ["_law_bag_here", "_law_most", "_law_far"] ["_law_bag_here", "_law_most"] (defScope sNm) := ⟨rfl, rfl, rfl, by decide +kernel, rfl, by decide +kernel, by decide +kernel⟩
theorem ok_nm {f fS fT : Addr} {fd fdS fdT : FuncData} (F : Fun K "_law_number" "_law_number" sNm f fd) (B : TxB mg) (GT : FnOk P w K mg base CX0 1 fT fdT ["_law_bag_here", "_law_many"] spTk) (gT : mg "_law_take" = some (.ref fT)) (kT : PySem.W.keepIn K (.ref fT) = true) (bT : Binds K fdT ["_law_bag_here", "_law_many"] [])
    (GS : FnOk P w K mg base CX0 2 fS fdS ["_law_bag_here", "_law_things"] spSm) (gS : mg "_law_some" = some (.ref fS)) (kS : PySem.W.keepIn K (.ref fS) = true) (bS : Binds K fdS ["_law_bag_here", "_law_things"] []) :
    FnOk P w K mg base CX0 3 f fd ["_law_bag_here", "_law_most"] spNm := by
  refine F.ok scNm (fun vs H Q E h => ?_) (fun cdv A outer s H vs Q E hr h => ?_)
  · obtain ⟨g, most, rfl, _⟩ := h
    rfl
  · obtain ⟨g, most, rfl, hB, m1, q⟩ := h
    have hr1 : Room 1 _ := hr.mono (by decide)
    refine ⟨_, pss_cons (ps_set (i := 2) scNm.nd rfl (.inl rfl) (pe_op op_modN (pe_op op_add (pe_op op_add
        (pe_op op_mul (pe_call GT hr1 rfl gT kT bT .nil pass0 (pa_cons (pv 0) (pa_cons (pe_op op_pow pe_int pe_int) pa_nil))) (pe_op op_pow pe_int pe_int))
        (pe_op op_mul (pe_call GT hr1 rfl gT kT bT .nil pass0 (pa_cons (pv 0) (pa_cons (pe_op op_pow pe_int pe_int) pa_nil))) (pe_op op_pow pe_int pe_int)))
        (pe_call GT hr1 rfl gT kT bT .nil pass0 (pa_cons (pv 0) (pa_cons (pe_op op_pow pe_int pe_int) pa_nil)))) (pv 1)))
      (pss_one (ps_ret (pe_call GS hr rfl gS kS bS .nil pass0 (pa_cons (pv 0) (pa_cons (pe_lst (pa_cons (pv 2) (pa_cons (pv 2) (pa_cons (pv 2) (pa_cons pe_int (pa_cons (pe_op op_sub (pv 1) pe_int)
        (pa_cons (pe_callB (call_min2 rfl) (by rfl) B.min (by decide +kernel) (pa_cons (pe_op op_sub (pv 1) pe_int) (pa_cons (pe_call GT hr1 rfl gT kT bT .nil pass0 (pa_cons (pv 0) (pa_cons pe_int pa_nil))) pa_nil)))
        (pa_cons (pe_op op_fdivN (pv 1) pe_int) pa_nil)))))))) pa_nil))))), ?_⟩
    have e9 : (10 : Int) ^ ((9 : Int).toNat) = 1000000000 := by decide
    have pw : CPow 10 9 := ⟨by decide, by decide, by decide⟩
    have pw6 : CPow 10 60 := ⟨by decide, by decide, by decide⟩
    have pw3 : CPow 10 30 := ⟨by decide, by decide, by decide⟩
    have lt9 : ∀ {r : Int}, 0 ≤ r → r < (10 : Int) ^ ((9 : Int).toNat) → -(2 ^ 64) < r ∧ r < 2 ^ 64 := fun {r} h0 h1 => by
      rw [e9] at h1
      exact ⟨by omega, by omega⟩
    refine ⟨_, rfl, 10, 9, rfl, rfl, pw, g, _, rfl, hB, by rw [e9]; decide, by rw [e9]; decide, fun ra H1 a0 a1 hB1 b1 => ?_⟩
    refine ⟨10, 60, rfl, rfl, pw6, ra, _, rfl, rfl, Or.inl (lt9 a0 a1), ?_⟩
    refine ⟨_, rfl, 10, 9, rfl, rfl, pw, g, _, rfl, hB1, by rw [e9]; decide, by rw [e9]; decide, fun rb H2 c0 c1 hB2 b2 => ?_⟩
    refine ⟨10, 30, rfl, rfl, pw3, rb, _, rfl, rfl, Or.inl (lt9 c0 c1), ?_⟩
    refine ⟨_, _, rfl, rfl, ?_⟩
    refine ⟨_, rfl, 10, 9, rfl, rfl, pw, g, _, rfl, hB2, by rw [e9]; decide, by rw [e9]; decide, fun rc H3 d0 d1 hB3 b3 => ?_⟩
    refine ⟨_, _, rfl, rfl, _, rfl, _, _, rfl, rfl, by omega, ?_⟩
    have ff := fmr (ra * (10 : Int) ^ ((60 : Int).toNat) + rb * (10 : Int) ^ ((30 : Int).toNat) + rc) (m := (most : Int)) (by omega)
    refine ⟨_, rfl, _, rfl, _, rfl, _, rfl, _, rfl, _, _, rfl, rfl, _, rfl, _, _, rfl, rfl, _, rfl, g, 9, rfl, hB3, by decide, by decide, fun rd H4 g0 g1 hB4 b4 => ?_⟩
    refine ⟨_, _, rfl, _, rfl, _, _, rfl, rfl, ⟨by decide, by decide⟩, by show 7 ≤ sizeLine; decide, fun t nt => ?_⟩
    refine ⟨g, t, _, rfl, hB4.put nt, upd_same, hB4.ne nt, by show 1 ≤ 7; decide, by show 7 ≤ 1000; decide, fun v H5 hv hB5 b5 => ?_⟩
    obtain ⟨z, hz, rfl⟩ := mem_ints (l := [_, _, _, 0, _, _, _]) hv
    have e2 : (most : Int).fdiv 2 = (most : Int) / 2 := Int.fdiv_eq_ediv_of_nonneg _ (by decide)
    have bz : 0 ≤ z ∧ z < (most : Int) := by
      simp only [List.mem_cons, List.not_mem_nil, or_false, e2] at hz
      rcases hz with hz | hz | hz | hz | hz | hz | hz
      · rw [hz]; exact ff
      · rw [hz]; exact ff
      · rw [hz]; exact ff
      · omega
      · omega
      · rw [hz]
        split <;> omega
      · omega
    have ez : V.int z = iv z.toNat := by
      show V.int z = V.int ((z.toNat : Nat) : Int)
      rw [Int.toNat_of_nonneg bz.1]
    show Q (V.int z) H5
    rw [ez]
    exact q z.toNat H5 (by omega) hB5 (b1.trans (b2.trans (b3.trans (b4.trans (((But.refl g H4).put nt).trans b5)))))
end
end K42

namespace K42
open PySem PySem.Spec PyProof.Rows L2
abbrev sAl : Stmt := top 14
abbrev sIT : Stmt := top 23
/-! ### data: tuples of small ints, a list of two of them -/
abbrev dTup (ns : List Int) : PyData := .tuple (ns.map PyData.int)
abbrev dPair (ns ms : List Int) : PyData := .list [dTup ns, dTup ms]
def Small (ns : List Int) : Prop := ns.length ≤ 240 ∧ ∀ z ∈ ns, 0 ≤ z ∧ z ≤ 16
theorem small_each {z : Int} (h : 0 ≤ z ∧ z ≤ 16) : z.natAbs.log2 < 1920 ∧ (PyData.shown (.int z)).length ≤ 8 ∧ PyData.weight (.int z) ≤ 5 := by
  obtain ⟨n, rfl⟩ : ∃ n : Nat, z = (n : Int) := ⟨z.toNat, by omega⟩
  have hn : n < 17 := by omega
  have key : ∀ k : Fin 17, ((k.val : Int).natAbs.log2 < 1920 ∧ (Str.ofString (toString (k.val : Int))).length ≤ 8 ∧ (if ((k.val : Int)) == 0 then 0 else (k.val : Int).natAbs.log2 + 1) ≤ 5) := by decide +kernel
  have := key ⟨n, hn⟩
  exact ⟨this.1, by simp only [PyData.shown]; exact this.2.1, by simp only [PyData.weight]; exact this.2.2⟩
theorem small_show : ∀ {ns : List Int}, (∀ z ∈ ns, 0 ≤ z ∧ z ≤ 16) → PyData.showableAll (ns.map PyData.int) = true ∧ PyData.hasDictAll (ns.map PyData.int) = false ∧ PyData.leavesShortAll 8 (ns.map PyData.int) = true ∧ PyData.weightAll (ns.map PyData.int) ≤ 6 * ns.length
  | [], _ => ⟨rfl, rfl, rfl, Nat.le_refl _⟩
  | z :: ns, h => by
    have hz := small_each (h z List.mem_cons_self)
    have ih := small_show (ns := ns) fun y hy => h y (List.mem_cons_of_mem _ hy)
    refine ⟨?_, ?_, ?_, ?_⟩
    · simp only [List.map_cons, PyData.showableAll, PyData.showable, ih.1, decide_eq_true hz.1, Bool.and_self]
    · simp only [List.map_cons, PyData.hasDictAll, PyData.hasDict, ih.2.1, Bool.or_self]
    · simp only [List.map_cons, PyData.leavesShortAll, PyData.leavesShort, ih.2.2.1, decide_eq_true hz.2.1, Bool.and_self]
    · have h3 := ih.2.2.2
      have h5 := hz.2.2
      simp only [List.map_cons, PyData.weightAll, List.length_cons]
      omega
structure Fine (d : PyData) : Prop where
  sh : d.showable = true
  nd : d.hasDict = false
  dp : d.depth ≤ 60
  fit : d.shown.length ≤ sizeLine
  cl : d.canLay0 = true
theorem Fine.shaped {d : PyData} (h : Fine d) : SeqAt.shaped d = true := by
  unfold SeqAt.shaped
  rw [h.cl, Bool.true_and]
  exact decide_eq_true (Nat.le_trans h.dp (by decide))
theorem fine_pair {ns ms : List Int} (h1 : Small ns) (h2 : Small ms) : Fine (dPair ns ms) := by
  obtain ⟨a1, a2, a3, a4⟩ := small_show h1.2
  obtain ⟨b1, b2, b3, b4⟩ := small_show h2.2
  have hl1 := h1.1
  have hl2 := h2.1
  refine ⟨?_, ?_, ?_, ?_, ?_⟩
  · simp only [PyData.showable, PyData.showableAll, a1, b1, Bool.and_self]
  · simp only [PyData.hasDict, PyData.hasDictAll, a2, b2, Bool.or_self]
  · simp only [PyData.depth, PyData.depthAll, PySem.W.ke_depthAll]
    decide
  · refine PyData.shown_fits (B := 8) (by decide) (by decide) ?_ ?_
    · simp only [PyData.leavesShort, PyData.leavesShortAll, a3, b3, Bool.and_self]
    · simp only [PyData.weight, PyData.weightAll]
      have : (2 : Nat) ^ 20 = 1048576 := by decide
      omega
  · simp only [PyData.canLay0, PyData.canLayAll0, PySem.W.ke_canLayAll0, Bool.and_self]
theorem dp_ints {K : PySem.W.Frag} {H : Hp} : ∀ ns : List Int, DpAll K H (ns.map V.int) (ns.map PyData.int)
  | [] => .nil
  | z :: ns => .cons (.int z) (dp_ints ns)
theorem dp_pair {K : PySem.W.Frag} {H : Hp} {l p q : Addr} {ns ms : List Int} (hl : H l = some (.lst [.ref p, .ref q])) (hp : H p = some (.tup (ns.map V.int))) (hq : H q = some (.tup (ms.map V.int))) : Dp K H (.ref l) (dPair ns ms) :=
  .lst (SqL.of hl) (.cons (.tup (SqT.of hp) (dp_ints ns)) (.cons (.tup (SqT.of hq) (dp_ints ms)) .nil))
section
variable {P : Program} {w : World} {K : PySem.W.Frag} {mg : Str → Option Value} {base : Heap}
/-! ### _law_alike: of ints; of data, where no repr is under way -/
def spAI : Sp := fun vs H Q _ => ∃ a : Int, vs = [.int a, .int a] ∧ a.natAbs.log2 < 1920 ∧ Q (.bl true) H
def spAG (K : PySem.W.Frag) : Sp := fun vs H Q _ => ∃ (p q : Addr) (d : PyData), vs = [.ref p, .ref q] ∧ Dp K H (.ref p) d ∧ Dp K H (.ref q) d ∧ Fine d ∧ Q (.bl true) H
theorem scAl : FnScope ["_law_found", "_law_due"] ["_law_found", "_law_due"] (defScope sAl) := ⟨rfl, rfl, rfl, by decide +kernel, rfl, by decide +kernel, by decide +kernel⟩
theorem ok_ai {f : Addr} {fd : FuncData} (F : Fun K "_law_alike" "_law_alike" sAl f fd) (B : TxB mg) : FnOk P w K mg base CX0 1 f fd ["_law_found", "_law_due"] spAI := by
  refine F.ok scAl (fun vs H Q E h => ?_) (fun cdv A outer s H vs Q E hr h => ?_)
  · obtain ⟨a, rfl, _⟩ := h
    rfl
  · obtain ⟨a, rfl, hz, q⟩ := h
    refine ⟨_, pss_one (ps_ret (pe_and (pe_cmpR op_eq (pv 0) (pv 1) (nomark _)) (pe_one (pe_cmpR op_eq (pe_callB SkE.call_repr_int (by rfl) B.repr (by decide +kernel) (pa_cons (pv 0) pa_nil)) (pe_callB SkE.call_repr_int (by rfl) B.repr (by decide +kernel) (pa_cons (pv 1) pa_nil)) (nomark _))))), ?_⟩
    refine ⟨_, rfl, _, rfl, rfl, _, rfl, ?_⟩
    rw [decide_eq_true rfl]
    refine ⟨_, rfl, a, rfl, hz, _, rfl, a, rfl, hz, rfl, ?_⟩
    rw [decide_eq_true rfl]
    exact q
theorem ok_ag {f : Addr} {fd : FuncData} (F : Fun K "_law_alike" "_law_alike" sAl f fd) (B : TxB mg) : FnG P w K mg base 1 f fd ["_law_found", "_law_due"] (spAG K) := by
  refine FnG.of F scAl (fun vs H Q E h => ?_) (fun cdv A outer s H vs Q E hg hr h => ?_)
  · obtain ⟨p, q, d, rfl, _⟩ := h
    rfl
  · obtain ⟨p, q, d, rfl, h1, h2, fd, k⟩ := h
    refine ⟨_, pss_one (ps_ret (pe_and (pe_cmpR (op_eqD hr.units) (pv 0) (pv 1) (nomark _)) (pe_one (pe_cmpR op_eq (pe_callB (cr_reprD hg hr.units) (by rfl) B.repr (by decide +kernel) (pa_cons (pv 0) pa_nil)) (pe_callB (cr_reprD hg hr.units) (by rfl) B.repr (by decide +kernel) (pa_cons (pv 1) pa_nil)) (nomark _))))), ?_⟩
    refine ⟨_, rfl, _, rfl, d, d, h1, h2, fd.shaped, fd.shaped, _, rfl, ?_⟩
    rw [SeqAt.eqv_refl d fd.cl]
    refine ⟨_, rfl, p, d, rfl, h1, fd.sh, fd.nd, fd.dp, fd.fit, _, rfl, q, d, rfl, h2, fd.sh, fd.nd, fd.dp, fd.fit, rfl, ?_⟩
    rw [decide_eq_true rfl]
    exact k
/-! ### _law_is_there -/
def spIT (K : PySem.W.Frag) : Sp := fun vs H Q _ => ∃ (bd : Addr) (n lo hi : Nat) (k : Int), vs = [.ref bd, iv n, .int k] ∧ Bd K H bd lo hi ∧ n ≤ 240 ∧ ∀ H' : Hp, Same H H' → Q (.bl (decide (0 ≤ k ∧ k < (cnt lo hi n : Int)))) H'
theorem scIT : FnScope ["_law_bounds", "_law_data", "_law_number_here"] ["_law_bounds", "_law_data", "_law_number_here"] (defScope sIT) := ⟨rfl, rfl, rfl, by decide +kernel, rfl, by decide +kernel, by decide +kernel⟩
theorem ok_it {f fB fI C T : Addr} {fd fdB : FuncData} (F : Fun K "_law_is_there" "_law_is_there" sIT f fd) (X : TxE K mg C T fI) (GB : FnOk P w K mg base (L2.CX P w) 3 fB fdB ["bounds", "data", "number"] (spBo K C)) (gB : mg "body_at" = some (.ref fB)) (kB : PySem.W.keepIn K (.ref fB) = true) (bB : Binds K fdB ["bounds", "data", "number"] []) :
    FnOk P w K mg base CX0 4 f fd ["_law_bounds", "_law_data", "_law_number_here"] (spIT K) := by
  refine F.ok scIT (fun vs H Q E h => ?_) (fun cdv A outer s H vs Q E hr h => ?_)
  · obtain ⟨bd, n, lo, hi, k, rfl, _⟩ := h
    rfl
  · obtain ⟨bd, n, lo, hi, k, rfl, D, hn, q⟩ := h
    refine ⟨_, pss_cons (ps_try_only rfl rfl ⟨rfl, by decide, .inl X.gC⟩ takes0
        (fun W pn xe tk _ => pss_one (ps_expr (by exact (pe_callS GB hr rfl gB kB bB (fun σ => passAt tk σ) (by exact (pa_cons (pv 0) (pa_cons (pv 1) (pa_cons (pv 2) pa_nil))))))))
        (fun a oe cls d pn _ _ => pss_one (ps_ret pe_bl)))
      (pss_one (ps_ret pe_bl)), ?_⟩
    refine ⟨_, rfl, _, rfl, _, rfl, bd, n, lo, hi, k, rfl, D, hn, fun hne d H' sm => ?_, fun m em hm b p H' hv hr' sm np hp => ?_⟩
    · refine ⟨true, X.te, fun _ a _ => ?_, fun z => Bool.noConfusion z⟩
      have e := q H' sm
      rw [decide_eq_false hne] at e
      exact e
    · have e := q H' sm
      rw [decide_eq_true (show 0 ≤ k ∧ k < (cnt lo hi n : Int) by omega)] at e
      exact e
end
end K42

namespace K42
open PySem PySem.Spec PyProof.Rows L2
abbrev sOR : Stmt := top 22
theorem lex_of {lo hi : Nat} (h1 : 1 ≤ lo) : ∀ {b b' : List Nat} {n : Nat}, Valid lo hi n b → Valid lo hi n b' → rank lo hi n b < rank lo hi n b' → HT.lexLt (b.map fun x : Nat => (x : Int)) (b'.map fun x : Nat => (x : Int)) = true
  | [], [], _, _, _, h => absurd h (Nat.lt_irrefl _)
  | [], _ :: _, _, _, _, _ => rfl
  | r :: b, [], n, v, v', _ => by
    obtain ⟨k1, _, k3, _⟩ := v
    have h0 : n = 0 := v'
    omega
  | r :: b, r' :: b', n, v, v', h => by
    show (if (r : Int) = (r' : Int) then HT.lexLt (b.map fun x : Nat => (x : Int)) (b'.map fun x : Nat => (x : Int)) else decide ((r : Int) < (r' : Int))) = true
    by_cases c : r = r'
    · subst c
      rw [if_pos rfl]
      have h' : part lo hi n (r - lo) + rank lo hi (n - r) b < part lo hi n (r - lo) + rank lo hi (n - r) b' := h
      exact lex_of h1 v.2.2.2 v'.2.2.2 (by omega)
    · rw [if_neg (by omega)]
      by_cases c2 : r < r'
      · exact decide_eq_true (by omega)
      · have := rank_head h1 v' v (by omega)
        omega
section
variable {P : Program} {w : World} {K : PySem.W.Frag} {mg : Str → Option Value} {base : Heap}
def spOR (K : PySem.W.Frag) : Sp := fun vs H Q _ => ∃ (bd cs : Addr) (n lo hi k : Nat), vs = [.ref bd, iv n, .ref cs, iv k] ∧ Bd K H bd lo hi ∧ n ≤ 240 ∧ SqL K H cs ((cl lo hi n).map iv) ∧ k < cnt lo hi n ∧ ∀ H' : Hp, Same H H' → Q (.bl true) H'
abbrev nOR : List Str := ["_law_bounds", "_law_data", "_law_counts_here", "_law_number_here", "_law_body", "_law_run", "_law_ahead", "_law_left", "_law_less"]
theorem scOR : FnScope nOR ["_law_bounds", "_law_data", "_law_counts_here", "_law_number_here"] (defScope sOR) := ⟨rfl, rfl, rfl, by decide +kernel, rfl, by decide +kernel, by decide +kernel⟩
theorem ok_or {f fB fN fA C : Addr} {fd fdB fdN fdA : FuncData} (F : Fun K "_law_is_one_right" "_law_is_one_right" sOR f fd) (B : TxB mg)
    (GB : FnOk P w K mg base (L2.CX P w) 3 fB fdB ["bounds", "data", "number"] (spBo K C)) (gB : mg "body_at" = some (.ref fB)) (kB : PySem.W.keepIn K (.ref fB) = true) (bB : Binds K fdB ["bounds", "data", "number"] [])
    (GN : FnOk P w K mg base CX0 2 fN fdN ["bounds", "data", "body"] (spNu K)) (gN : mg "number_of" = some (.ref fN)) (kN : PySem.W.keepIn K (.ref fN) = true) (bN : Binds K fdN ["bounds", "data", "body"] [])
    (GA : FnOk P w K mg base CX0 1 fA fdA ["_law_found", "_law_due"] spAI) (gA : mg "_law_alike" = some (.ref fA)) (kA : PySem.W.keepIn K (.ref fA) = true) (bA : Binds K fdA ["_law_found", "_law_due"] []) :
    FnOk P w K mg base CX0 4 f fd ["_law_bounds", "_law_data", "_law_counts_here", "_law_number_here"] (spOR K) := by
  refine F.ok scOR (fun vs H Q E h => ?_) (fun cdv A outer s H vs Q E hr h => ?_)
  · obtain ⟨bd, cs, n, lo, hi, k, rfl, _⟩ := h
    rfl
  · obtain ⟨bd, cs, n, lo, hi, k, rfl, D, hn, hcs, hk, q⟩ := h
    have hr1 : Room 1 _ := hr.mono (by decide)
    have hr2 : Room 2 _ := hr.mono (by decide)
    refine ⟨_, pss_cons (ps_set (i := 4) scOR.nd rfl (.inl rfl) (pe_call GB hr rfl gB kB bB .nil passL (pa_cons (pv 0) (pa_cons (pv 1) (pa_cons (pv 3) pa_nil)))))
      (pss_cons (ps_if (PW.pt (pw_or (pt_not (pt_val (pe_callB call_isi (by rfl) B.isi (by decide +kernel) (pa_cons (pv 4) (pa_cons (pe_bltn (v := .ty "tuple") (u := .type "tuple") (by rfl) B.tuple (by decide +kernel) rfl) pa_nil)))))
          (pw_or1 (pt_cmpR (op_neD hr.units) (pe_lc (own := [("_law_run", 5)]) (g := gName 5)
              (tt := tNot (tTest (tChain (rI0 fun i j => .bl (decide (i ≤ j))) (rI0 fun i j => .bl (decide (i ≤ j))) (tOp (rIxT K) (tVar 0) (tC (.int 3))) (tVar 5) (tOp (rIxT K) (tVar 0) (tC (.int 4))))))
              rfl scOR.nd (pi_tup (pv 4)) (blkOk_by (N := nOR) (sc := defScope sOR) (by decide +kernel)) (fun _ _ _ _ _ => pg_name (i := 5) scOR.nd rfl (Or.inl rfl))
              (fun _ _ _ _ _ => pts_one (pt_not (pt_chain op_le op_le (pe_ix (r := rIxT K) ix_tup (pv 0) pe_int (fun _ _ => rfl)) (pv 5) (pe_ix (r := rIxT K) ix_tup (pv 0) pe_int (fun _ _ => rfl)))))
              (fun _ _ _ _ _ => pv 5)) (pe_lst pa_nil) (nomark _))))) (pss_one (ps_ret pe_bl)) pss_nil)
      (pss_cons (ps_if (PW.pt (pw_or (pt_cmpR op_ne (pe_callB (cr_sumTup rfl) (by rfl) B.sum (by decide +kernel) (pa_cons (pv 4) pa_nil)) (pv 1) (nomark _))
          (pw_or1 (pt_not (pt_val (pe_call GA hr1 rfl gA kA bA .nil pass0 (pa_cons (pe_call GN hr2 rfl gN kN bN .nil pass0 (pa_cons (pv 0) (pa_cons (pv 1) (pa_cons (pv 4) pa_nil)))) (pa_cons (pv 3) pa_nil)))))))) (pss_one (ps_ret pe_bl)) pss_nil)
      (pss_cons (ps_asg (pe_tup (pa_cons pe_int (pa_cons (pv 1) pa_nil))) (pg_tup rfl (pgs_cons (pg_name (i := 6) scOR.nd rfl (.inl rfl)) (pgs_cons (pg_name (i := 7) scOR.nd rfl (.inr rfl)) pgs_nil))))
      (pss_cons (ps_for PassesOwn.never rfl (pi_tup (pv 4)) (pg_name (i := 5) scOR.nd rfl (.inl rfl))
        (pss_cons (ps_aug (i := 6) scOR.nd rfl (.inl rfl) (pe_callB (cr_sum rfl) (by rfl) B.sum (by decide +kernel) (pa_cons
            (pe_lc (own := [("_law_less", 8)]) (g := gName 8) (tt := tYes) rfl scOR.nd (pi_range2 (by rfl) B.range (pa_cons (pe_ix ix_tup (pv 0) pe_int (fun _ _ => rfl)) (pa_cons (pv 5) pa_nil)))
              (blkOk_by (N := nOR) (sc := defScope sOR) (by decide +kernel)) (fun _ _ _ _ _ => pg_name (i := 8) scOR.nd rfl (Or.inl rfl)) (fun _ _ _ _ _ => pts_nil)
              (fun _ _ _ _ _ => pe_ix (r := rIxL K) ix_list (pv 2) (pe_op op_sub (pv 7) (pv 8)) (fun _ _ => rfl))) pa_nil)) ip_add)
        (pss_one (ps_aug (i := 7) scOR.nd rfl (.inr rfl) (pv 5) ip_sub))))
      (pss_one (ps_ret (pe_and (pe_cmpR op_eq (pv 6) (pv 3) (nomark _)) (pe_one (pe_or (pe_cmpR op_eq (pe_op op_add (pv 3) pe_int) (pe_ix ix_list (pv 2) (pv 1) (fun _ _ => rfl)) (nomark _))
        (pe_one (pe_cmpR (op_ltT hr.units0) (pv 4) (pe_call GB hr rfl gB kB bB .nil passL (pa_cons (pv 0) (pa_cons (pv 1) (pa_cons (pe_op op_add (pv 3) pe_int) pa_nil)))) (nomark _)))))))))))), ?_⟩
    -- body
    refine ⟨_, rfl, _, rfl, _, rfl, bd, n, lo, hi, (k : Int), rfl, D, hn, fun hne => absurd (show 0 ≤ (k : Int) ∧ (k : Int) < (cnt lo hi n : Int) by omega) hne, fun m em hm b p H1 hv hrk s1 np hp => ?_⟩
    obtain rfl : k = m := by omega
    have D1 := D.same s1
    obtain ⟨⟨xs, hT, e3, e4⟩, h1, h2, h3⟩ := id D1
    have hcs1 := s1.seq hcs
    -- isinstance, the runs
    refine ⟨_, rfl, .ref p, .ty "tuple", .type "tuple", .type "tuple", true, rfl, .ty "tuple", .base (.tup hp), kit_ty (by decide +kernel), _, rfl, ?_⟩
    refine ⟨_, rfl, p, rfl, ⟨_, SqT.of hp⟩, fun D' nD => ?_⟩
    have hvr := valid_runs hv
    refine lc_tup (K := K) (a := p) (xs := b.map iv) (fun i H' => Same H1 H' ∧ H' D' = some (.lst [])) ⟨same_put (Same.refl H1) nD, upd_same⟩ (fun i H' _ ⟨sm, _⟩ => same_tup sm (SqT.of hp)) ?_ ?_
    · rintro i x H' hi' ⟨sm, hD⟩
      obtain ⟨r, hr', rfl⟩ := iv_at hi'
      have hrr := hvr r (List.mem_of_getElem? hr')
      refine ⟨rfl, _, rfl, bd, xs, 3, _, rfl, rfl, same_tup sm hT, atI_nat (j := 3) e3, _, rfl, _, _, rfl, rfl, _, rfl, ?_⟩
      rw [decide_eq_true (show (lo : Int) ≤ (r : Int) by omega)]
      refine ⟨_, rfl, bd, xs, 4, _, rfl, rfl, same_tup sm hT, atI_nat (j := 4) e4, _, _, rfl, rfl, _, rfl, ?_⟩
      rw [decide_eq_true (show (r : Int) ≤ (hi : Int) by omega)]
      exact ⟨sm, hD⟩
    rintro H2 ⟨s2, hD2⟩
    refine ⟨Nat.zero_le _, fun l nl => ?_⟩
    have hDl : D' ≠ l := ne_of_none hD2 nl
    refine ⟨.list [], .list [], .lst (SqL.of ((upd_ne hDl).trans hD2)) .nil, .lst (SqL.of upd_same) .nil, by decide, by decide, _, rfl, ?_⟩
    rw [SeqAt.eqv_refl (.list []) rfl]
    have s3 : Same H1 (upd H2 l (.lst [])) := s2.trans (same_put (Same.refl H2) nl)
    generalize upd H2 l (.lst []) = H3 at s3 ⊢
    -- the sum, the number
    refine ⟨_, rfl, p, b.map fun x : Nat => (x : Int), rfl, SqT.of (by rw [s3 _ _ hp, iv_map]), _, rfl, rfl, _, rfl, ?_⟩
    rw [cast_sum, valid_sum hv, decide_eq_true rfl]
    refine ⟨_, rfl, _, rfl, _, rfl, bd, p, n, lo, hi, b, rfl, D1.same s3, hn, SqT.of (s3 _ _ hp), hv, fun H4 s4 => ?_⟩
    have hlog : (k : Int).natAbs.log2 < 1920 := by
      rw [Int.natAbs_natCast]
      exact cnt_log h1 h3 hn (Nat.le_of_lt hk)
    refine ⟨_, rfl, (k : Int), by rw [hrk]; rfl, hlog, _, rfl, ?_⟩
    -- ahead, left
    have s13 : Same H1 H4 := s3.trans s4
    refine ⟨_, rfl, by show 2 ≤ sizeLine; decide, fun z nz => ⟨z, _, rfl, SqT.of upd_same, rfl, _, _, rfl, _, _, rfl, rfl, ?_⟩⟩
    have s14 : Same H1 (upd H4 z (.tup [V.int 0, iv n])) := s13.trans (same_put (Same.refl H4) nz)
    refine ⟨_, rfl, p, rfl, ⟨_, SqT.of (s14 _ _ hp)⟩, for_tup (K := K) (a := p) (xs := b.map iv) (fun i σ H' => ∃ (num left : Nat) (nI lI : Int) (y : Option V),
        σ = [some (.ref bd), some (iv n), some (.ref cs), some (iv k), some (.ref p), y, some (.int nI), some (.int lI), none] ∧ nI = (num : Int) ∧ lI = (left : Int) ∧ Same H1 H' ∧ left ≤ n ∧ Valid lo hi left (b.drop i) ∧ num + rank lo hi left (b.drop i) = rank lo hi n b)
      ⟨0, n, _, _, none, rfl, rfl, rfl, s14, Nat.le_refl _, hv, Nat.zero_add _⟩ (fun i σ H' _ ⟨_, _, _, _, _, _, _, _, sm, _⟩ => SqT.of (sm _ _ hp)) ?_ ?_⟩
    · rintro i x σ H' hi' ⟨num, left, nI, lI, y, rfl, rfl, rfl, sm, hln, hV, hnum⟩
      obtain ⟨r, hr', rfl⟩ := iv_at hi'
      rw [drop_at hr'] at hV hnum
      obtain ⟨v1, v2, v3, v4⟩ := hV
      have hcs' := sm.seq hcs1
      refine ⟨_, rfl, _, rfl, bd, xs, 3, _, rfl, rfl, same_tup sm hT, atI_nat (j := 3) e3, _, rfl, (lo : Int), (r : Int), rfl, ⟨by omega, by omega, by omega, by omega⟩, fun D2 nD2 => ?_⟩
      have en : ((r : Int) - (lo : Int)).toNat = r - lo := by omega
      rw [en]
      refine lc_range (lo := (lo : Int)) (n := r - lo) (fun i H'' => Same H' H'' ∧ H'' D2 = some (.lst ((shares lo hi left i).map iv))) ⟨same_put (Same.refl H') nD2, upd_same⟩ ?_ ?_
      · rintro i2 H5 hi2 ⟨sm2, hD⟩
        have ei : (left : Int) - ((lo : Int) + (i2 : Int)) = ((left - (lo + i2) : Nat) : Int) := by omega
        refine ⟨rfl, _, rfl, _, rfl, _, rfl, _, _, rfl, rfl, cs, _, _, _, rfl, rfl, sm2.seq hcs', at_of ei (cl_iv (by omega)), _, hD, ?_, same_put sm2 nD2, ?_⟩
        · rw [List.length_map, shares_len]
          exact small1000 (by omega)
        · rw [upd_same, shares_next, List.map_append]
          rfl
      · rintro H5 ⟨sm2, hD⟩
        refine ⟨D2, (shares lo hi left (r - lo)).map fun x : Nat => (x : Int), rfl, SqL.of (by rw [hD, iv_map]), ?_⟩
        rw [cast_sum, shares_sum]
        refine ⟨_, _, rfl, rfl, ?_⟩
        refine ⟨_, rfl, _, rfl, _, _, rfl, rfl, ?_⟩
        refine ⟨num + part lo hi left (r - lo), left - r, _, _, _, rfl, by dsimp only; omega, by dsimp only; omega, sm.trans sm2, by omega, v4, ?_⟩
        rw [← hnum]
        show _ = num + (part lo hi left (r - lo) + rank lo hi (left - r) (b.drop (i + 1)))
        omega
    · rintro σ H' ⟨num, left, nI, lI, y, rfl, rfl, rfl, sm, hln, hV, hnum⟩
      rw [List.length_map, List.drop_length] at hnum
      have e : num = k := by
        have h0 : num + 0 = rank lo hi n b := hnum
        omega
      subst e
      refine ⟨_, rfl, _, rfl, rfl, _, rfl, ?_⟩
      rw [decide_eq_true rfl]
      have D5 := D1.same sm
      refine ⟨_, rfl, _, _, rfl, rfl, _, rfl, _, rfl, cs, _, _, _, rfl, rfl, sm.seq hcs1, atI_nat (cl_iv (Nat.le_refl n)), rfl, _, rfl, ?_⟩
      by_cases c : num + 1 = cnt lo hi n
      · rw [decide_eq_true (show V.int ((num : Int) + 1) = iv (cnt lo hi n) from congrArg V.int (by omega))]
        exact q H' (s1.trans sm)
      · rw [decide_eq_false (show ¬ V.int ((num : Int) + 1) = iv (cnt lo hi n) from fun z => c (by
          have z' : (num : Int) + 1 = ((cnt lo hi n : Nat) : Int) := V.int.inj z
          omega))]
        refine ⟨_, rfl, _, rfl, _, rfl, _, rfl, _, _, rfl, rfl, bd, n, lo, hi, (num : Int) + 1, rfl, D5, hn, fun hne => absurd (show 0 ≤ (num : Int) + 1 ∧ (num : Int) + 1 < (cnt lo hi n : Int) by omega) hne, fun m em hm b2 p2 H6 hv2 hrk2 s6 np2 hp2 => ?_⟩
        refine ⟨p, p2, b.map fun x : Nat => (x : Int), b2.map fun x : Nat => (x : Int), rfl, rfl, SqT.of (by rw [s6 _ _ (sm _ _ hp), iv_map]), SqT.of (by rw [hp2, iv_map]), ?_⟩
        rw [lex_of h1 hv hv2 (by omega)]
        exact q H6 (s1.trans (sm.trans s6))
end
end K42

namespace K42
open PySem PySem.Spec PyProof.Rows L2
abbrev sLaw : Stmt := top 24
theorem log_of {c b : Nat} (h1 : 2 ^ b ≤ c) (h2 : c < 2 * 2 ^ b) : c.log2 = b := by
  have hc : c ≠ 0 := by
    have := Nat.one_le_two_pow (n := b)
    omega
  refine (Nat.log2_eq_iff hc).mpr ⟨h1, ?_⟩
  rw [Nat.pow_succ]
  omega
theorem small_body {lo hi n : Nat} {b : List Nat} (h1 : 1 ≤ lo) (h3 : hi ≤ 16) (hn : n ≤ 240) (hv : Valid lo hi n b) : Small (b.map fun x : Nat => (x : Int)) := by
  refine ⟨?_, fun z hz => ?_⟩
  · have := valid_len h1 hv
    rw [List.length_map]
    omega
  · obtain ⟨r, hr, rfl⟩ := List.mem_map.mp hz
    have := valid_runs hv r hr
    omega
theorem Bd.but {K : PySem.W.Frag} {H H' : Hp} {g a : Addr} {lo hi : Nat} (b : Bd K H a lo hi) (s : But g H H') (n : a ≠ g) : Bd K H' a lo hi := by
  obtain ⟨⟨xs, e, e3, e4⟩, h1, h2, h3⟩ := b
  refine ⟨⟨xs, ?_, e3, e4⟩, h1, h2, h3⟩
  rcases e with (e | ⟨o, e⟩) | e
  · exact .inl (.inl (s _ _ n e))
  · exact .inl (.inr ⟨o, s _ _ n e⟩)
  · exact .inr e
/-- the law's own callees, as the top has laid them -/
structure Callees (P : Program) (w : World) (K : PySem.W.Frag) (mg : Str → Option Value) (base : Heap) where
  fBag : Addr
  fTk : Addr
  fSm : Addr
  fWd : Addr
  fLC : Addr
  fMa : Addr
  fIT : Addr
  fEn : Addr
  fAl : Addr
  fBo : Addr
  fOR : Addr
  fNm : Addr
  fBi : Addr
  C : Addr
  dBag : FuncData
  dTk : FuncData
  dSm : FuncData
  dWd : FuncData
  dLC : FuncData
  dMa : FuncData
  dIT : FuncData
  dEn : FuncData
  dAl : FuncData
  dBo : FuncData
  dOR : FuncData
  dNm : FuncData
  dBi : FuncData
  GBag : FnOk P w K mg base CX0 1 fBag dBag ["_law_script"] (spBag K)
  GTk : FnOk P w K mg base CX0 1 fTk dTk ["_law_bag_here", "_law_many"] spTk
  GSm : FnOk P w K mg base CX0 2 fSm dSm ["_law_bag_here", "_law_things"] spSm
  GWd : FnOk P w K mg base CX0 4 fWd dWd ["_law_bag_here"] spWd
  GLC : FnOk P w K mg base CX0 1 fLC dLC ["_law_bounds", "_law_data"] (spLC K)
  GMa : FnOk P w K mg base CX0 2 fMa dMa ["bounds", "data"] (spMa K)
  GIT : FnOk P w K mg base CX0 4 fIT dIT ["_law_bounds", "_law_data", "_law_number_here"] (spIT K)
  GEn : FnOk P w K mg base CX0 1 fEn dEn ["_law_bounds", "_law_data", "_law_counts_here", "_law_is_least"] (spEn K)
  GAl : FnG P w K mg base 1 fAl dAl ["_law_found", "_law_due"] (spAG K)
  GBo : FnOk P w K mg base (L2.CX P w) 3 fBo dBo ["bounds", "data", "number"] (spBo K C)
  GOR : FnOk P w K mg base CX0 4 fOR dOR ["_law_bounds", "_law_data", "_law_counts_here", "_law_number_here"] (spOR K)
  GNm : FnOk P w K mg base CX0 3 fNm dNm ["_law_bag_here", "_law_most"] spNm
  GBi : FnOk P w K mg base CX0 3 fBi dBi ["bounds", "data"] (spBi K)
  gBag : mg "_law_bag" = some (.ref fBag)
  gTk : mg "_law_take" = some (.ref fTk)
  gSm : mg "_law_some" = some (.ref fSm)
  gWd : mg "_law_wide" = some (.ref fWd)
  gLC : mg "_law_counts" = some (.ref fLC)
  gMa : mg "many_bodies" = some (.ref fMa)
  gIT : mg "_law_is_there" = some (.ref fIT)
  gEn : mg "_law_end" = some (.ref fEn)
  gAl : mg "_law_alike" = some (.ref fAl)
  gBo : mg "body_at" = some (.ref fBo)
  gOR : mg "_law_is_one_right" = some (.ref fOR)
  gNm : mg "_law_number" = some (.ref fNm)
  gBi : mg "bits_of" = some (.ref fBi)
  kBag : PySem.W.keepIn K (.ref fBag) = true
  kTk : PySem.W.keepIn K (.ref fTk) = true
  kSm : PySem.W.keepIn K (.ref fSm) = true
  kWd : PySem.W.keepIn K (.ref fWd) = true
  kLC : PySem.W.keepIn K (.ref fLC) = true
  kMa : PySem.W.keepIn K (.ref fMa) = true
  kIT : PySem.W.keepIn K (.ref fIT) = true
  kEn : PySem.W.keepIn K (.ref fEn) = true
  kAl : PySem.W.keepIn K (.ref fAl) = true
  kBo : PySem.W.keepIn K (.ref fBo) = true
  kOR : PySem.W.keepIn K (.ref fOR) = true
  kNm : PySem.W.keepIn K (.ref fNm) = true
  kBi : PySem.W.keepIn K (.ref fBi) = true
  bBag : Binds K dBag ["_law_script"] []
  bTk : Binds K dTk ["_law_bag_here", "_law_many"] []
  bSm : Binds K dSm ["_law_bag_here", "_law_things"] []
  bWd : Binds K dWd ["_law_bag_here"] []
  bLC : Binds K dLC ["_law_bounds", "_law_data"] []
  bMa : Binds K dMa ["bounds", "data"] []
  bIT : Binds K dIT ["_law_bounds", "_law_data", "_law_number_here"] []
  bEn : Binds K dEn ["_law_bounds", "_law_data", "_law_counts_here", "_law_is_least"] []
  bAl : Binds K dAl ["_law_found", "_law_due"] []
  bBo : Binds K dBo ["bounds", "data", "number"] []
  bOR : Binds K dOR ["_law_bounds", "_law_data", "_law_counts_here", "_law_number_here"] []
  bNm : Binds K dNm ["_law_bag_here", "_law_most"] []
  bBi : Binds K dBi ["bounds", "data"] []
section
variable {P : Program} {w : World} {K : PySem.W.Frag} {mg : Str → Option Value} {base : Heap}
def spLaw (K : PySem.W.Frag) : Sp := fun vs H Q _ => ∃ (a : Addr) (ns : List Int), vs = [.ref a] ∧ SqL K H a (ns.map V.int) ∧ ∀ H' : Hp, Q (.bl true) H'
theorem scLaw : FnScope ["_law_script", "_law_bag_here", "_law_turn", "_law_bounds", "_law_data", "_law_counts_here", "_law_many", "_law_ends", "_law_k", "_law_size_here", "_law_bits"] ["_law_script"] (defScope sLaw) := ⟨rfl, rfl, rfl, by decide +kernel, rfl, by decide +kernel, by decide +kernel⟩
theorem ok_law {f : Addr} {fd : FuncData} (F : Fun K "law" "law" sLaw f fd) (B : TxB mg) (Y : Callees P w K mg base) : FnG P w K mg base 5 f fd ["_law_script"] (spLaw K) := by
  refine FnG.of F scLaw (fun vs H Q E h => ?_) (fun cdv A outer s H vs Q E hgd hr h => ?_)
  · obtain ⟨a, ns, rfl, _⟩ := h
    rfl
  · obtain ⟨a, ns, rfl, hS, q⟩ := h
    have hr1 : Room 1 _ := hr.mono (by decide)
    have hr2 : Room 2 _ := hr.mono (by decide)
    have hr3 : Room 3 _ := hr.mono (by decide)
    refine ⟨_, PSs.nox (pss_cons (ps_set (i := 1) scLaw.nd rfl (.inl rfl) (pe_call Y.GBag hr1 rfl Y.gBag Y.kBag Y.bBag .nil pass0 (pa_cons (pv 0) pa_nil)))
      (pss_cons (ps_for PassesOwn.never rfl (pi_range1 (by rfl) B.range (pa_cons pe_int pa_nil)) (pg_name (i := 2) scLaw.nd rfl (.inl rfl))
        (pss_cons (ps_par (i := 3) (j := 4) rfl scLaw.nd rfl rfl (by decide) rfl rfl (pa_cons (pe_call Y.GWd hr rfl Y.gWd Y.kWd Y.bWd .nil pass0 (pa_cons (pv 1) pa_nil))
          (pa_cons (pe_call Y.GSm hr2 rfl Y.gSm Y.kSm Y.bSm .nil pass0 (pa_cons (pv 1) (pa_cons (pe_lst (pa_cons pe_int (pa_cons (pe_call Y.GTk hr1 rfl Y.gTk Y.kTk Y.bTk .nil pass0 (pa_cons (pv 1) (pa_cons pe_int pa_nil)))
            (pa_cons (pe_call Y.GTk hr1 rfl Y.gTk Y.kTk Y.bTk .nil pass0 (pa_cons (pv 1) (pa_cons pe_int pa_nil))) (pa_cons (pe_op op_add pe_int (pe_call Y.GTk hr1 rfl Y.gTk Y.kTk Y.bTk .nil pass0 (pa_cons (pv 1) (pa_cons pe_int pa_nil)))) pa_nil))))) pa_nil))) pa_nil)) (by rfl))
        (pss_cons (ps_set (i := 5) scLaw.nd rfl (.inl rfl) (pe_call Y.GLC hr1 rfl Y.gLC Y.kLC Y.bLC .nil pass0 (pa_cons (pv 3) (pa_cons (pv 4) pa_nil))))
        (pss_cons (ps_set (i := 6) scLaw.nd rfl (.inl rfl) (pe_ix ix_list (pv 5) (pv 4) (fun _ _ => rfl)))
        (pss_cons (ps_if (PW.pt (pw_or (pt_cmpR op_ne (pe_call Y.GMa hr2 rfl Y.gMa Y.kMa Y.bMa .nil pass0 (pa_cons (pv 3) (pa_cons (pv 4) pa_nil))) (pv 6) (nomark _))
          (pw_or1 (pt_val (pe_call Y.GIT hr rfl Y.gIT Y.kIT Y.bIT .nil pass0 (pa_cons (pv 3) (pa_cons (pv 4) (pa_cons (pv 6) pa_nil)))))))) (pss_one (ps_ret pe_bl)) pss_nil)
        (pss_cons (ps_if (pt_cmpR op_eq (pv 6) pe_int (nomark _)) (pss_one ps_continue) pss_nil)
        (pss_cons (ps_set (i := 7) scLaw.nd rfl (.inl rfl) (pe_lst (pa_cons (pe_call Y.GEn hr1 rfl Y.gEn Y.kEn Y.bEn .nil pass0 (pa_cons (pv 3) (pa_cons (pv 4) (pa_cons (pv 5) (pa_cons pe_bl pa_nil)))))
          (pa_cons (pe_call Y.GEn hr1 rfl Y.gEn Y.kEn Y.bEn .nil pass0 (pa_cons (pv 3) (pa_cons (pv 4) (pa_cons (pv 5) (pa_cons pe_bl pa_nil))))) pa_nil))))
        (pss_cons (ps_if (pt_not (pt_val (pe_callG Y.GAl hgd hr1 rfl Y.gAl Y.kAl Y.bAl (pa_cons (pe_lst (pa_cons (pe_call Y.GBo hr3 rfl Y.gBo Y.kBo Y.bBo .nil passL (pa_cons (pv 3) (pa_cons (pv 4) (pa_cons pe_int pa_nil))))
          (pa_cons (pe_call Y.GBo hr3 rfl Y.gBo Y.kBo Y.bBo .nil passL (pa_cons (pv 3) (pa_cons (pv 4) (pa_cons (pe_op op_sub (pv 6) pe_int) pa_nil)))) pa_nil))) (pa_cons (pv 7) pa_nil))))) (pss_one (ps_ret pe_bl)) pss_nil)
        (pss_cons (ps_for PassesOwn.never rfl (pi_range1 (by rfl) B.range (pa_cons pe_int pa_nil)) (pg_name (i := 8) scLaw.nd rfl (.inl rfl))
          (pss_one (ps_if (pt_not (pt_val (pe_call Y.GOR hr rfl Y.gOR Y.kOR Y.bOR .nil pass0 (pa_cons (pv 3) (pa_cons (pv 4) (pa_cons (pv 5) (pa_cons (pe_call Y.GNm hr3 rfl Y.gNm Y.kNm Y.bNm .nil pass0 (pa_cons (pv 1) (pa_cons (pv 6) pa_nil))) pa_nil))))))) (pss_one (ps_ret pe_bl)) pss_nil)))
        (pss_cons (ps_asg (pe_tup (pa_cons pe_int (pa_cons pe_int pa_nil))) (pg_tup rfl (pgs_cons (pg_name (i := 9) scLaw.nd rfl (.inl rfl)) (pgs_cons (pg_name (i := 10) scLaw.nd rfl (.inl rfl)) pgs_nil))))
        (pss_cons (ps_while PassesOwn.never (pt_cmpR op_le (pe_op op_mul pe_int (pv 9)) (pv 6) (nomark _))
          (pss_one (ps_par (i := 9) (j := 10) rfl scLaw.nd rfl rfl (by decide) rfl rfl (pa_cons (pe_op op_mul pe_int (pv 9)) (pa_cons (pe_op op_add (pv 10) pe_int) pa_nil)) (by rfl))))
        (pss_cons (ps_if (PW.pt (pw_or (pt_cmpR op_ne (pe_call Y.GBi hr3 rfl Y.gBi Y.kBi Y.bBi .nil pass0 (pa_cons (pv 3) (pa_cons (pv 4) pa_nil))) (pv 10) (nomark _))
          (pw_or1 (pt_not (pt_val (pe_call Y.GIT hr rfl Y.gIT Y.kIT Y.bIT .nil pass0 (pa_cons (pv 3) (pa_cons (pv 4) (pa_cons (pe_op op_sub (pv 9) pe_int) pa_nil))))))))) (pss_one (ps_ret pe_bl)) pss_nil)
        (pss_one (ps_if (pt_val (pe_call Y.GIT hr rfl Y.gIT Y.kIT Y.bIT .nil pass0 (pa_cons (pv 3) (pa_cons (pv 4) (pa_cons (pe_op op_sub (pe_op op_mul pe_int (pv 9)) pe_int) pa_nil))))) (pss_one (ps_ret pe_bl)) pss_nil))))))))))))))
      (pss_one (ps_ret pe_bl)))), ?_⟩
    refine ⟨_, rfl, a, ns, rfl, hS, fun g H0 s0 hB0 => ?_⟩
    refine ⟨3, rfl, by decide, by decide, for_range (lo := 0) (n := 3) (fun i σ H' => ∃ y2 y3 y4 y5 y6 y7 y8 y9 y10 : Option V, σ = [some (.ref a), some (.ref g), y2, y3, y4, y5, y6, y7, y8, y9, y10] ∧ BagAt H' g)
      ⟨none, none, none, none, none, none, none, none, none, rfl, hB0⟩ ?_ ?_⟩
    · rintro i σ H1 hi1 ⟨y2, y3, y4, y5, y6, y7, y8, y9, y10, rfl, hB1⟩
      -- the bounds, the data
      refine ⟨_, rfl, g, rfl, hB1, fun bd H2 lo hi xs h1 h2 h3 hB2 b2 hbd e3 e4 => ?_⟩
      have nbd : bd ≠ g := fun e => by
        obtain ⟨x0, x1, x2, c, ms, hg, _⟩ := hB2
        rw [e, hg] at hbd
        cases hbd
      refine ⟨_, rfl, _, rfl, g, 241, rfl, hB2, by decide, by decide, fun ra H3 a0 a1 hB3 b3 => ?_⟩
      refine ⟨_, rfl, g, 60, rfl, hB3, by decide, by decide, fun rb H4 c0 c1 hB4 b4 => ?_⟩
      refine ⟨_, rfl, g, 12, rfl, hB4, by decide, by decide, fun rc H5 d0 d1 hB5 b5 => ⟨_, _, rfl, rfl, ?_⟩⟩
      refine ⟨by show 4 ≤ sizeLine; decide, fun t nt => ?_⟩
      refine ⟨g, t, _, rfl, hB5.put nt, upd_same, hB5.ne nt, by show 1 ≤ 4; decide, by show 4 ≤ 1000; decide, fun v H6 hv hB6 b6 => ?_⟩
      obtain ⟨z, hz, rfl⟩ := mem_ints (l := [240, ra, rb, _]) hv
      have bz : 0 ≤ z ∧ z ≤ 240 := by
        simp only [List.mem_cons, List.not_mem_nil, or_false] at hz
        rcases hz with hz | hz | hz | hz <;> omega
      obtain ⟨n, rfl⟩ : ∃ n : Nat, z = (n : Int) := ⟨z.toNat, by omega⟩
      have hn : n ≤ 240 := by omega
      refine ⟨_, _, rfl, ?_⟩
      have bb : But g H2 H6 := b3.trans (b4.trans (b5.trans (((But.refl g H5).put nt).trans b6)))
      have D6 : Bd K H6 bd lo hi := ⟨⟨xs, SqT.of (bb bd _ nbd hbd), e3, e4⟩, h1, h2, h3⟩
      clear hbd b2 b3 b4 b5 b6 bb hB2 hB3 hB4 hB5 nt hv hz
      -- the counts
      refine ⟨_, rfl, _, rfl, bd, n, lo, hi, rfl, D6, hn, fun cs H7 s7 ncs hcs => ?_⟩
      have ncg : cs ≠ g := hB6.ne ncs
      refine ⟨_, rfl, _, rfl, cs, _, _, _, rfl, rfl, SqL.of hcs, atI_nat (cl_iv (Nat.le_refl n)), ?_⟩
      have D7 := D6.same s7
      have hB7 := hB6.same s7
      -- many_bodies, one beyond
      refine ⟨_, rfl, _, rfl, bd, n, lo, hi, rfl, D7, hn, fun H8 s8 => ?_⟩
      refine ⟨_, rfl, rfl, _, rfl, ?_⟩
      rw [decide_eq_true rfl]
      have D8 := D7.same s8
      refine ⟨_, rfl, _, rfl, _, rfl, bd, n, lo, hi, _, rfl, D8, hn, fun H9 s9 => ?_⟩
      refine ⟨_, rfl, ?_⟩
      rw [decide_eq_false (show ¬ (0 ≤ ((cnt lo hi n : Nat) : Int) ∧ ((cnt lo hi n : Nat) : Int) < ((cnt lo hi n : Nat) : Int)) by omega)]
      have D9 := D8.same s9
      have s79 := s8.trans s9
      have hB9 := hB7.same s79
      have hcs9 := s79 _ _ hcs
      -- if many == 0
      refine ⟨_, rfl, rfl, _, rfl, ?_⟩
      refine ite2 (fun hc => ?_) (fun hc => ?_)
      · exact ⟨_, _, _, _, _, _, _, _, _, rfl, hB9⟩
      have hpos : 0 < cnt lo hi n := by
        have hh : ¬ (V.int ((cnt lo hi n : Nat) : Int) = V.int 0) := fun z => hc (decide_eq_true z)
        have h' : cnt lo hi n ≠ 0 := fun e => hh (by rw [e]; rfl)
        omega
      -- the ends
      refine ⟨_, rfl, _, rfl, _, rfl, bd, cs, n, lo, hi, true, rfl, D9, hn, SqL.of hcs9, hpos, fun e0 q0 H10 v0 r0 _ s10 nq0 hq0 => ?_⟩
      have hcs10 := s10 _ _ hcs9
      refine ⟨_, rfl, _, rfl, _, rfl, bd, cs, n, lo, hi, false, rfl, D9.same s10, hn, SqL.of hcs10, hpos, fun e1 q1 H11 v1 _ r1 s11 nq1 hq1 => ?_⟩
      refine ⟨by show 2 ≤ sizeLine; decide, fun le nle => ?_⟩
      have s12 : Same H11 (upd H11 le (.lst [.ref q0, .ref q1])) := same_put (Same.refl H11) nle
      have hle : (upd H11 le (.lst [.ref q0, .ref q1])) le = some (.lst [.ref q0, .ref q1]) := upd_same
      generalize upd H11 le (.lst [.ref q0, .ref q1]) = H12 at s12 hle ⊢
      have s912 : Same H9 H12 := s10.trans (s11.trans s12)
      have D12 := D9.same s912
      -- the least and the greatest body
      refine ⟨_, rfl, _, rfl, bd, n, lo, hi, 0, rfl, D12, hn, fun hne => absurd (show (0 : Int) ≤ 0 ∧ (0 : Int) < (cnt lo hi n : Int) by omega) hne, fun m em _ b0 p0 H13 w0 k0 s13 np0 hp0 => ?_⟩
      obtain rfl : m = 0 := by omega
      refine ⟨_, rfl, _, rfl, _, rfl, _, _, rfl, rfl, bd, n, lo, hi, _, rfl, D12.same s13, hn, fun hne => absurd (show (0 : Int) ≤ ((cnt lo hi n : Nat) : Int) - 1 ∧ ((cnt lo hi n : Nat) : Int) - 1 < (cnt lo hi n : Int) by omega) hne, fun m em hm b1 p1 H14 w1 k1 s14 np1 hp1 => ?_⟩
      obtain rfl : m = cnt lo hi n - 1 := by
        have em' : ((cnt lo hi n : Nat) : Int) - 1 = (m : Int) := em
        omega
      obtain rfl : b0 = e0 := rank_inj h1 w0 v0 (by rw [k0, r0 rfl])
      obtain rfl : b1 = e1 := rank_inj h1 w1 v1 (by rw [k1]; have := r1 rfl; omega)
      refine ⟨by show 2 ≤ sizeLine; decide, fun lf nlf => ?_⟩
      have s15 : Same H14 (upd H14 lf (.lst [.ref p0, .ref p1])) := same_put (Same.refl H14) nlf
      have hlf : (upd H14 lf (.lst [.ref p0, .ref p1])) lf = some (.lst [.ref p0, .ref p1]) := upd_same
      generalize upd H14 lf (.lst [.ref p0, .ref p1]) = H15 at s15 hlf ⊢
      have s1215 : Same H12 H15 := s13.trans (s14.trans s15)
      have s1115 : Same H11 H15 := s12.trans s1215
      have up : ∀ {p : Addr} {b : List Nat} {H : Hp}, H p = some (.tup (b.map iv)) → Same H H15 → H15 p = some (.tup ((b.map fun x : Nat => (x : Int)).map V.int)) := fun {p b H} e s => by
        rw [s _ _ e, iv_map]
      refine ⟨_, rfl, lf, le, dPair (b0.map fun x : Nat => (x : Int)) (b1.map fun x : Nat => (x : Int)), rfl, dp_pair hlf (up hp0 (s14.trans s15)) (up hp1 s15), dp_pair (s1215 _ _ hle) (up hq0 (s11.trans s1115)) (up hq1 s1115), fine_pair (small_body h1 h3 hn w0) (small_body h1 h3 hn w1), _, rfl, ?_⟩
      have s915 : Same H9 H15 := s912.trans s1215
      have D15 := D9.same s915
      have hB15 := hB9.same s915
      have hcs15 := s915 _ _ hcs9
      -- three drawn numbers
      refine ⟨3, rfl, by decide, by decide, for_range (lo := 0) (n := 3) (fun i σ H' => ∃ y2 y8 y9 y10 : Option V, σ = [some (.ref a), some (.ref g), y2, some (.ref bd), some (iv n), some (.ref cs), some (iv (cnt lo hi n)), some (.ref le), y8, y9, y10] ∧ BagAt H' g ∧ Bd K H' bd lo hi ∧ H' cs = some (.lst ((cl lo hi n).map iv)))
        ⟨_, _, _, _, rfl, hB15, D15, hcs15⟩ ?_ ?_⟩
      · rintro i2 σ2 H16 hi2 ⟨y2', y8', y9', y10', rfl, hB16, D16, hcs16⟩
        refine ⟨_, rfl, _, rfl, _, rfl, _, rfl, _, rfl, g, cnt lo hi n, rfl, hB16, hpos, fun k H17 hk hB17 b17 => ?_⟩
        have D17 := D16.but b17 nbd
        have hcs17 := b17 cs _ ncg hcs16
        refine ⟨bd, cs, n, lo, hi, k, rfl, D17, hn, SqL.of hcs17, hk, fun H18 s18 => ?_⟩
        refine ⟨_, rfl, ?_⟩
        exact ⟨_, _, _, _, rfl, hB17.same s18, D17.same s18, s18 _ _ hcs17⟩
      · rintro σ2 H16 ⟨y2', y8', y9', y10', rfl, hB16, D16, hcs16⟩
        refine ⟨by show 2 ≤ sizeLine; decide, fun t nt => ⟨t, _, rfl, SqT.of upd_same, rfl, _, _, rfl, _, _, rfl, rfl, ?_⟩⟩
        have s17 : Same H16 (upd H16 t (.tup [V.int 1, V.int 0])) := same_put (Same.refl H16) nt
        generalize upd H16 t (.tup [V.int 1, V.int 0]) = H17 at s17 ⊢
        have D17 := D16.same s17
        have hB17 := hB16.same s17
        refine ⟨fun m σ H' => ∃ (b : Nat) (sI bI : Int), m = cnt lo hi n - 2 ^ b ∧ σ = [some (.ref a), some (.ref g), y2', some (.ref bd), some (iv n), some (.ref cs), some (iv (cnt lo hi n)), some (.ref le), y8', some (.int sI), some (.int bI)] ∧ sI = ((2 ^ b : Nat) : Int) ∧ bI = (b : Int) ∧ 2 ^ b ≤ cnt lo hi n ∧ H' = H17,
          ⟨_, 0, _, _, rfl, rfl, rfl, rfl, hpos, rfl⟩, ?_⟩
        rintro m σ3 H18 ⟨b, sI, bI, rfl, rfl, rfl, rfl, hb, rfl⟩
        refine ⟨_, rfl, _, _, rfl, rfl, .inl ⟨by decide, by decide⟩, _, rfl, _, _, rfl, rfl, _, rfl, ?_⟩
        have p1 : 1 ≤ 2 ^ b := Nat.one_le_two_pow
        have p2 : 2 ^ (b + 1) = 2 ^ b * 2 := Nat.pow_succ ..
        refine ite2 (fun hc => ?_) (fun hc => ?_)
        · have hc' : 2 * ((2 ^ b : Nat) : Int) ≤ ((cnt lo hi n : Nat) : Int) := of_decide_eq_true hc
          refine ⟨_, fun _ _ z => z, ?_⟩
          refine ⟨_, rfl, _, _, rfl, rfl, .inl ⟨by decide, by decide⟩, _, rfl, _, _, rfl, rfl, _, _, rfl, ?_⟩
          exact ⟨cnt lo hi n - 2 ^ (b + 1), by omega, b + 1, _, _, rfl, rfl, by omega, by omega, by omega, rfl⟩
        · have hc' : ¬ 2 * ((2 ^ b : Nat) : Int) ≤ ((cnt lo hi n : Nat) : Int) := fun z => hc (decide_eq_true z)
          refine ⟨_, rfl, _, rfl, bd, n, lo, hi, rfl, D17, hn, hpos, fun H19 s19 => ?_⟩
          refine ⟨_, rfl, rfl, _, rfl, ?_⟩
          rw [log_of hb (by omega), decide_eq_true rfl]
          have D19 := D17.same s19
          refine ⟨_, rfl, _, rfl, _, rfl, _, _, rfl, rfl, bd, n, lo, hi, ((2 ^ b : Nat) : Int) - 1, rfl, D19, hn, fun H20 s20 => ?_⟩
          refine ⟨_, rfl, ?_⟩
          rw [decide_eq_true (show 0 ≤ ((2 ^ b : Nat) : Int) - 1 ∧ ((2 ^ b : Nat) : Int) - 1 < ((cnt lo hi n : Nat) : Int) by omega)]
          have D20 := D19.same s20
          refine ⟨_, rfl, _, rfl, _, rfl, _, _, rfl, rfl, .inl ⟨by decide, by decide⟩, _, _, rfl, rfl, bd, n, lo, hi, 2 * ((2 ^ b : Nat) : Int) - 1, rfl, D20, hn, fun H21 s21 => ?_⟩
          refine ⟨_, rfl, ?_⟩
          rw [decide_eq_false (show ¬ (0 ≤ 2 * ((2 ^ b : Nat) : Int) - 1 ∧ 2 * ((2 ^ b : Nat) : Int) - 1 < ((cnt lo hi n : Nat) : Int)) by omega)]
          exact ⟨_, _, _, _, _, _, _, _, _, rfl, ((hB17.same s19).same s20).same s21⟩
    · rintro σ H' ⟨y2, y3, y4, y5, y6, y7, y8, y9, y10, rfl, hB⟩
      exact q H'
end
end K42

/-! What the top has laid, def by def; the law's end. Printed by gen_end.py. -/
namespace K42
open PySem PySem.Spec PyProof.Rows L2
/-- an own class is what «except C» names -/
theorem exm_mine {K : PySem.W.Frag} {S : Addr} (h1 : PySem.W.subIn K (.ref S) (.type "BaseException") = some true) (h2 : PySem.W.isClsIn K S = true) (h3 : PySem.W.typeIn K (.ref S) = some (.type "type"))
    (h4 : PySem.W.subIn K (.ref S) (.ref S) = some true) : PySem.W.exmOne K (.ref S) (.ref S) = some true := by
  have a : (PySem.W.subIn K (.ref S) (.type "BaseException") == some true) = true := by rw [h1]; rfl
  have b : ((PySem.W.clsIn K S).isSome && PySem.W.typeIn K (.ref S) == some (.type "type")) = true := by
    rw [h3, show (PySem.W.clsIn K S).isSome = true from h2]
    rfl
  unfold PySem.W.exmOne
  rw [if_pos a]
  show (if ((PySem.W.clsIn K S).isSome && PySem.W.typeIn K (.ref S) == some (.type "type")) = true then PySem.W.subIn K (.ref S) (.ref S) else none) = some true
  rw [if_pos b]
  exact h4
/-- a def of the text stands behind the name x -/
structure At (K : PySem.W.Frag) (mg : Str → Option Value) (x : Str) (st : Stmt) (ps : List Str) (f : Addr) (fd : FuncData) : Prop where
  F : Fun K x x st f fd
  g : mg x = some (.ref f)
  b : Binds K fd ps []
section
variable {P : Program} {w : World} {K : PySem.W.Frag} {mg : Str → Option Value} {base : Heap}
/-- all defs together -/
theorem all_law {fCo : Addr} {dCo : FuncData} {fMa : Addr} {dMa : FuncData} {fBi : Addr} {dBi : FuncData} {fBo : Addr} {dBo : FuncData} {fNu : Addr} {dNu : FuncData} {fBag : Addr} {dBag : FuncData} {fTk : Addr} {dTk : FuncData} {fSm : Addr} {dSm : FuncData} {fAl : Addr} {dAl : FuncData} {fCm : Addr} {dCm : FuncData} {fFr : Addr} {dFr : FuncData} {fSz : Addr} {dSz : FuncData} {fLC : Addr} {dLC : FuncData} {fWd : Addr} {dWd : FuncData} {fEn : Addr} {dEn : FuncData} {fNm : Addr} {dNm : FuncData} {fOR : Addr} {dOR : FuncData} {fIT : Addr} {dIT : FuncData} {fLaw : Addr} {dLaw : FuncData} {C T fI : Addr} {dI : FuncData} {dvs : List V} (B : TxB mg) (X : TxE K mg C T fI)
    (FI : FunD K "__init__" "NoBody.__init__" (defArgs sNB) (defBody sNB) (defScope sNB) dvs [] fI dI) (bI : Binds K dI ["self", "number"] [])
    (ACo : At K mg "counts_to" sCo ["bounds", "data"] fCo dCo)
    (AMa : At K mg "many_bodies" sMa ["bounds", "data"] fMa dMa)
    (ABi : At K mg "bits_of" sBi ["bounds", "data"] fBi dBi)
    (ABo : At K mg "body_at" sBo ["bounds", "data", "number"] fBo dBo)
    (ANu : At K mg "number_of" sNu ["bounds", "data", "body"] fNu dNu)
    (ABag : At K mg "_law_bag" sBag ["_law_script"] fBag dBag)
    (ATk : At K mg "_law_take" sTk ["_law_bag_here", "_law_many"] fTk dTk)
    (ASm : At K mg "_law_some" sSm ["_law_bag_here", "_law_things"] fSm dSm)
    (AAl : At K mg "_law_alike" sAl ["_law_found", "_law_due"] fAl dAl)
    (ACm : At K mg "_law_common" sCm ["_law_one", "_law_other"] fCm dCm)
    (AFr : At K mg "_law_fraction" sFr ["_law_n", "_law_d"] fFr dFr)
    (ASz : At K mg "_law_size" sSz ["_law_bag_here"] fSz dSz)
    (ALC : At K mg "_law_counts" sLC ["_law_bounds", "_law_data"] fLC dLC)
    (AWd : At K mg "_law_wide" sWd ["_law_bag_here"] fWd dWd)
    (AEn : At K mg "_law_end" sEn ["_law_bounds", "_law_data", "_law_counts_here", "_law_is_least"] fEn dEn)
    (ANm : At K mg "_law_number" sNm ["_law_bag_here", "_law_most"] fNm dNm)
    (AOR : At K mg "_law_is_one_right" sOR ["_law_bounds", "_law_data", "_law_counts_here", "_law_number_here"] fOR dOR)
    (AIT : At K mg "_law_is_there" sIT ["_law_bounds", "_law_data", "_law_number_here"] fIT dIT)
    (ALaw : At K mg "law" sLaw ["_law_script"] fLaw dLaw) :
    FnG P w K mg base 5 fLaw dLaw ["_law_script"] (spLaw K) := by
  have GI : FnOk P w K mg base CX0 1 fI dI ["self", "number"] (spNB C) := ok_nb FI X
  have GCo : FnOk P w K mg base CX0 1 fCo dCo ["bounds", "data"] (spCo K) := ok_co ACo.F B
  have GMa : FnOk P w K mg base CX0 2 fMa dMa ["bounds", "data"] (spMa K) := ok_ma AMa.F GCo ACo.g ACo.F.kp ACo.b
  have GBi : FnOk P w K mg base CX0 3 fBi dBi ["bounds", "data"] (spBi K) := ok_bi ABi.F GMa AMa.g AMa.F.kp AMa.b
  have GBo : FnOk P w K mg base (L2.CX P w) 3 fBo dBo ["bounds", "data", "number"] (spBo K C) := ok_bo ABo.F B GCo ACo.g ACo.F.kp ACo.b X GI bI
  have GNu : FnOk P w K mg base CX0 2 fNu dNu ["bounds", "data", "body"] (spNu K) := ok_nu ANu.F B GCo ACo.g ACo.F.kp ACo.b
  have GBag : FnOk P w K mg base CX0 1 fBag dBag ["_law_script"] (spBag K) := ok_bag ABag.F B
  have GTk : FnOk P w K mg base CX0 1 fTk dTk ["_law_bag_here", "_law_many"] spTk := ok_tk ATk.F B
  have GSm : FnOk P w K mg base CX0 2 fSm dSm ["_law_bag_here", "_law_things"] spSm := ok_sm ASm.F B GTk ATk.g ATk.F.kp ATk.b
  have GAI : FnOk P w K mg base CX0 1 fAl dAl ["_law_found", "_law_due"] spAI := ok_ai AAl.F B
  have GAG : FnG P w K mg base 1 fAl dAl ["_law_found", "_law_due"] (spAG K) := ok_ag AAl.F B
  have GCm : FnOk P w K mg base CX0 1 fCm dCm ["_law_one", "_law_other"] spCm := ok_cm ACm.F B
  have GFr : FnOk P w K mg base CX0 2 fFr dFr ["_law_n", "_law_d"] spFr := ok_fr AFr.F B GCm ACm.g ACm.F.kp ACm.b
  have GSz : FnOk P w K mg base CX0 3 fSz dSz ["_law_bag_here"] spSz := ok_sz ASz.F GSm ASm.g ASm.F.kp ASm.b GFr AFr.g AFr.F.kp AFr.b
  have GLC : FnOk P w K mg base CX0 1 fLC dLC ["_law_bounds", "_law_data"] (spLC K) := ok_lc ALC.F B
  have GWd : FnOk P w K mg base CX0 4 fWd dWd ["_law_bag_here"] spWd := ok_wd AWd.F B GTk ATk.g ATk.F.kp ATk.b GSm ASm.g ASm.F.kp ASm.b GSz ASz.g ASz.F.kp ASz.b
  have GEn : FnOk P w K mg base CX0 1 fEn dEn ["_law_bounds", "_law_data", "_law_counts_here", "_law_is_least"] (spEn K) := ok_en AEn.F B
  have GNm : FnOk P w K mg base CX0 3 fNm dNm ["_law_bag_here", "_law_most"] spNm := ok_nm ANm.F B GTk ATk.g ATk.F.kp ATk.b GSm ASm.g ASm.F.kp ASm.b
  have GOR : FnOk P w K mg base CX0 4 fOR dOR ["_law_bounds", "_law_data", "_law_counts_here", "_law_number_here"] (spOR K) := ok_or AOR.F B GBo ABo.g ABo.F.kp ABo.b GNu ANu.g ANu.F.kp ANu.b GAI AAl.g AAl.F.kp AAl.b
  have GIT : FnOk P w K mg base CX0 4 fIT dIT ["_law_bounds", "_law_data", "_law_number_here"] (spIT K) := ok_it AIT.F X GBo ABo.g ABo.F.kp ABo.b
  exact ok_law ALaw.F B {
    fBag := fBag, dBag := dBag, GBag := GBag, gBag := ABag.g, kBag := ABag.F.kp, bBag := ABag.b,
    fTk := fTk, dTk := dTk, GTk := GTk, gTk := ATk.g, kTk := ATk.F.kp, bTk := ATk.b,
    fSm := fSm, dSm := dSm, GSm := GSm, gSm := ASm.g, kSm := ASm.F.kp, bSm := ASm.b,
    fWd := fWd, dWd := dWd, GWd := GWd, gWd := AWd.g, kWd := AWd.F.kp, bWd := AWd.b,
    fLC := fLC, dLC := dLC, GLC := GLC, gLC := ALC.g, kLC := ALC.F.kp, bLC := ALC.b,
    fMa := fMa, dMa := dMa, GMa := GMa, gMa := AMa.g, kMa := AMa.F.kp, bMa := AMa.b,
    fIT := fIT, dIT := dIT, GIT := GIT, gIT := AIT.g, kIT := AIT.F.kp, bIT := AIT.b,
    fEn := fEn, dEn := dEn, GEn := GEn, gEn := AEn.g, kEn := AEn.F.kp, bEn := AEn.b,
    fAl := fAl, dAl := dAl, GAl := GAG, gAl := AAl.g, kAl := AAl.F.kp, bAl := AAl.b,
    fBo := fBo, dBo := dBo, GBo := GBo, gBo := ABo.g, kBo := ABo.F.kp, bBo := ABo.b,
    fOR := fOR, dOR := dOR, GOR := GOR, gOR := AOR.g, kOR := AOR.F.kp, bOR := AOR.b,
    fNm := fNm, dNm := dNm, GNm := GNm, gNm := ANm.g, kNm := ANm.F.kp, bNm := ANm.b,
    fBi := fBi, dBi := dBi, GBi := GBi, gBi := ABi.g, kBi := ABi.F.kp, bBi := ABi.b,
    C := C }
end
/-! ### the facts, each in the form that k_is finds -/
theorem all_mk {P : Program} {w : World} {K : PySem.W.Frag} {h : Heap} {mg : Str → Option Value} {fa C T fI tI : Addr} {fCo : Addr} {fMa : Addr} {fBi : Addr} {fBo : Addr} {fNu : Addr} {fBag : Addr} {fTk : Addr} {fSm : Addr} {fAl : Addr} {fCm : Addr} {fFr : Addr} {fSz : Addr} {fLC : Addr} {fWd : Addr} {fEn : Addr} {fNm : Addr} {fOR : Addr} {fIT : Addr} {fLaw : Addr} (X : K.In h) (G : h.Ns mainGlobals mg) (hfa : mg "law" = some (.ref fa))
    {odCo anCo : Option Addr} {slCo : Array (Option Value)} {ocCo kVCo dcCo pmCo cdCo ctCo : Value}
    {odMa anMa : Option Addr} {slMa : Array (Option Value)} {ocMa kVMa dcMa pmMa cdMa ctMa : Value}
    {odBi anBi : Option Addr} {slBi : Array (Option Value)} {ocBi kVBi dcBi pmBi cdBi ctBi : Value}
    {odBo anBo : Option Addr} {slBo : Array (Option Value)} {ocBo kVBo dcBo pmBo cdBo ctBo : Value}
    {odNu anNu : Option Addr} {slNu : Array (Option Value)} {ocNu kVNu dcNu pmNu cdNu ctNu : Value}
    {odBag anBag : Option Addr} {slBag : Array (Option Value)} {ocBag kVBag dcBag pmBag cdBag ctBag : Value}
    {odTk anTk : Option Addr} {slTk : Array (Option Value)} {ocTk kVTk dcTk pmTk cdTk ctTk : Value}
    {odSm anSm : Option Addr} {slSm : Array (Option Value)} {ocSm kVSm dcSm pmSm cdSm ctSm : Value}
    {odAl anAl : Option Addr} {slAl : Array (Option Value)} {ocAl kVAl dcAl pmAl cdAl ctAl : Value}
    {odCm anCm : Option Addr} {slCm : Array (Option Value)} {ocCm kVCm dcCm pmCm cdCm ctCm : Value}
    {odFr anFr : Option Addr} {slFr : Array (Option Value)} {ocFr kVFr dcFr pmFr cdFr ctFr : Value}
    {odSz anSz : Option Addr} {slSz : Array (Option Value)} {ocSz kVSz dcSz pmSz cdSz ctSz : Value}
    {odLC anLC : Option Addr} {slLC : Array (Option Value)} {ocLC kVLC dcLC pmLC cdLC ctLC : Value}
    {odWd anWd : Option Addr} {slWd : Array (Option Value)} {ocWd kVWd dcWd pmWd cdWd ctWd : Value}
    {odEn anEn : Option Addr} {slEn : Array (Option Value)} {ocEn kVEn dcEn pmEn cdEn ctEn : Value}
    {odNm anNm : Option Addr} {slNm : Array (Option Value)} {ocNm kVNm dcNm pmNm cdNm ctNm : Value}
    {odOR anOR : Option Addr} {slOR : Array (Option Value)} {ocOR kVOR dcOR pmOR cdOR ctOR : Value}
    {odIT anIT : Option Addr} {slIT : Array (Option Value)} {ocIT kVIT dcIT pmIT cdIT ctIT : Value}
    {odLaw anLaw : Option Addr} {slLaw : Array (Option Value)} {ocLaw kVLaw dcLaw pmLaw cdLaw ctLaw : Value}
    {nm qn : Str} {N : Addr} {bs : List Value} {sn : List Str} {sub : List Value} {ab : Bool} {col : Option Bool} {dd : Option Addr} {m0 m1 m2 m3 m5 : Option Value}
    {ocI kVI dcI pmI cdI ctI ocD : Value} {odI anI odD : Option Addr} {slI slD : Array (Option Value)} {nD : Nat}
    (aCo : PySem.W.nsIn K mainGlobals "counts_to" = some (some (.ref fCo)))
    (lCo : K.lookup fCo = some ⟨ocCo, odCo, .func (PySem.W.fnOf "counts_to" "counts_to" (defArgs sCo) (defBody sCo) (defScope sCo) .none kVCo dcCo pmCo anCo cdCo ctCo), slCo⟩)
    (cCo : PySem.W.codeIn K cdCo "counts_to" = true) (kCo : PySem.W.keepIn K (.ref fCo) = true)
    (aMa : PySem.W.nsIn K mainGlobals "many_bodies" = some (some (.ref fMa)))
    (lMa : K.lookup fMa = some ⟨ocMa, odMa, .func (PySem.W.fnOf "many_bodies" "many_bodies" (defArgs sMa) (defBody sMa) (defScope sMa) .none kVMa dcMa pmMa anMa cdMa ctMa), slMa⟩)
    (cMa : PySem.W.codeIn K cdMa "many_bodies" = true) (kMa : PySem.W.keepIn K (.ref fMa) = true)
    (aBi : PySem.W.nsIn K mainGlobals "bits_of" = some (some (.ref fBi)))
    (lBi : K.lookup fBi = some ⟨ocBi, odBi, .func (PySem.W.fnOf "bits_of" "bits_of" (defArgs sBi) (defBody sBi) (defScope sBi) .none kVBi dcBi pmBi anBi cdBi ctBi), slBi⟩)
    (cBi : PySem.W.codeIn K cdBi "bits_of" = true) (kBi : PySem.W.keepIn K (.ref fBi) = true)
    (aBo : PySem.W.nsIn K mainGlobals "body_at" = some (some (.ref fBo)))
    (lBo : K.lookup fBo = some ⟨ocBo, odBo, .func (PySem.W.fnOf "body_at" "body_at" (defArgs sBo) (defBody sBo) (defScope sBo) .none kVBo dcBo pmBo anBo cdBo ctBo), slBo⟩)
    (cBo : PySem.W.codeIn K cdBo "body_at" = true) (kBo : PySem.W.keepIn K (.ref fBo) = true)
    (aNu : PySem.W.nsIn K mainGlobals "number_of" = some (some (.ref fNu)))
    (lNu : K.lookup fNu = some ⟨ocNu, odNu, .func (PySem.W.fnOf "number_of" "number_of" (defArgs sNu) (defBody sNu) (defScope sNu) .none kVNu dcNu pmNu anNu cdNu ctNu), slNu⟩)
    (cNu : PySem.W.codeIn K cdNu "number_of" = true) (kNu : PySem.W.keepIn K (.ref fNu) = true)
    (aBag : PySem.W.nsIn K mainGlobals "_law_bag" = some (some (.ref fBag)))
    (lBag : K.lookup fBag = some ⟨ocBag, odBag, .func (PySem.W.fnOf "_law_bag" "_law_bag" (defArgs sBag) (defBody sBag) (defScope sBag) .none kVBag dcBag pmBag anBag cdBag ctBag), slBag⟩)
    (cBag : PySem.W.codeIn K cdBag "_law_bag" = true) (kBag : PySem.W.keepIn K (.ref fBag) = true)
    (aTk : PySem.W.nsIn K mainGlobals "_law_take" = some (some (.ref fTk)))
    (lTk : K.lookup fTk = some ⟨ocTk, odTk, .func (PySem.W.fnOf "_law_take" "_law_take" (defArgs sTk) (defBody sTk) (defScope sTk) .none kVTk dcTk pmTk anTk cdTk ctTk), slTk⟩)
    (cTk : PySem.W.codeIn K cdTk "_law_take" = true) (kTk : PySem.W.keepIn K (.ref fTk) = true)
    (aSm : PySem.W.nsIn K mainGlobals "_law_some" = some (some (.ref fSm)))
    (lSm : K.lookup fSm = some ⟨ocSm, odSm, .func (PySem.W.fnOf "_law_some" "_law_some" (defArgs sSm) (defBody sSm) (defScope sSm) .none kVSm dcSm pmSm anSm cdSm ctSm), slSm⟩)
    (cSm : PySem.W.codeIn K cdSm "_law_some" = true) (kSm : PySem.W.keepIn K (.ref fSm) = true)
    (aAl : PySem.W.nsIn K mainGlobals "_law_alike" = some (some (.ref fAl)))
    (lAl : K.lookup fAl = some ⟨ocAl, odAl, .func (PySem.W.fnOf "_law_alike" "_law_alike" (defArgs sAl) (defBody sAl) (defScope sAl) .none kVAl dcAl pmAl anAl cdAl ctAl), slAl⟩)
    (cAl : PySem.W.codeIn K cdAl "_law_alike" = true) (kAl : PySem.W.keepIn K (.ref fAl) = true)
    (aCm : PySem.W.nsIn K mainGlobals "_law_common" = some (some (.ref fCm)))
    (lCm : K.lookup fCm = some ⟨ocCm, odCm, .func (PySem.W.fnOf "_law_common" "_law_common" (defArgs sCm) (defBody sCm) (defScope sCm) .none kVCm dcCm pmCm anCm cdCm ctCm), slCm⟩)
    (cCm : PySem.W.codeIn K cdCm "_law_common" = true) (kCm : PySem.W.keepIn K (.ref fCm) = true)
    (aFr : PySem.W.nsIn K mainGlobals "_law_fraction" = some (some (.ref fFr)))
    (lFr : K.lookup fFr = some ⟨ocFr, odFr, .func (PySem.W.fnOf "_law_fraction" "_law_fraction" (defArgs sFr) (defBody sFr) (defScope sFr) .none kVFr dcFr pmFr anFr cdFr ctFr), slFr⟩)
    (cFr : PySem.W.codeIn K cdFr "_law_fraction" = true) (kFr : PySem.W.keepIn K (.ref fFr) = true)
    (aSz : PySem.W.nsIn K mainGlobals "_law_size" = some (some (.ref fSz)))
    (lSz : K.lookup fSz = some ⟨ocSz, odSz, .func (PySem.W.fnOf "_law_size" "_law_size" (defArgs sSz) (defBody sSz) (defScope sSz) .none kVSz dcSz pmSz anSz cdSz ctSz), slSz⟩)
    (cSz : PySem.W.codeIn K cdSz "_law_size" = true) (kSz : PySem.W.keepIn K (.ref fSz) = true)
    (aLC : PySem.W.nsIn K mainGlobals "_law_counts" = some (some (.ref fLC)))
    (lLC : K.lookup fLC = some ⟨ocLC, odLC, .func (PySem.W.fnOf "_law_counts" "_law_counts" (defArgs sLC) (defBody sLC) (defScope sLC) .none kVLC dcLC pmLC anLC cdLC ctLC), slLC⟩)
    (cLC : PySem.W.codeIn K cdLC "_law_counts" = true) (kLC : PySem.W.keepIn K (.ref fLC) = true)
    (aWd : PySem.W.nsIn K mainGlobals "_law_wide" = some (some (.ref fWd)))
    (lWd : K.lookup fWd = some ⟨ocWd, odWd, .func (PySem.W.fnOf "_law_wide" "_law_wide" (defArgs sWd) (defBody sWd) (defScope sWd) .none kVWd dcWd pmWd anWd cdWd ctWd), slWd⟩)
    (cWd : PySem.W.codeIn K cdWd "_law_wide" = true) (kWd : PySem.W.keepIn K (.ref fWd) = true)
    (aEn : PySem.W.nsIn K mainGlobals "_law_end" = some (some (.ref fEn)))
    (lEn : K.lookup fEn = some ⟨ocEn, odEn, .func (PySem.W.fnOf "_law_end" "_law_end" (defArgs sEn) (defBody sEn) (defScope sEn) .none kVEn dcEn pmEn anEn cdEn ctEn), slEn⟩)
    (cEn : PySem.W.codeIn K cdEn "_law_end" = true) (kEn : PySem.W.keepIn K (.ref fEn) = true)
    (aNm : PySem.W.nsIn K mainGlobals "_law_number" = some (some (.ref fNm)))
    (lNm : K.lookup fNm = some ⟨ocNm, odNm, .func (PySem.W.fnOf "_law_number" "_law_number" (defArgs sNm) (defBody sNm) (defScope sNm) .none kVNm dcNm pmNm anNm cdNm ctNm), slNm⟩)
    (cNm : PySem.W.codeIn K cdNm "_law_number" = true) (kNm : PySem.W.keepIn K (.ref fNm) = true)
    (aOR : PySem.W.nsIn K mainGlobals "_law_is_one_right" = some (some (.ref fOR)))
    (lOR : K.lookup fOR = some ⟨ocOR, odOR, .func (PySem.W.fnOf "_law_is_one_right" "_law_is_one_right" (defArgs sOR) (defBody sOR) (defScope sOR) .none kVOR dcOR pmOR anOR cdOR ctOR), slOR⟩)
    (cOR : PySem.W.codeIn K cdOR "_law_is_one_right" = true) (kOR : PySem.W.keepIn K (.ref fOR) = true)
    (aIT : PySem.W.nsIn K mainGlobals "_law_is_there" = some (some (.ref fIT)))
    (lIT : K.lookup fIT = some ⟨ocIT, odIT, .func (PySem.W.fnOf "_law_is_there" "_law_is_there" (defArgs sIT) (defBody sIT) (defScope sIT) .none kVIT dcIT pmIT anIT cdIT ctIT), slIT⟩)
    (cIT : PySem.W.codeIn K cdIT "_law_is_there" = true) (kIT : PySem.W.keepIn K (.ref fIT) = true)
    (aLaw : PySem.W.nsIn K mainGlobals "law" = some (some (.ref fLaw)))
    (lLaw : K.lookup fLaw = some ⟨ocLaw, odLaw, .func (PySem.W.fnOf "law" "law" (defArgs sLaw) (defBody sLaw) (defScope sLaw) .none kVLaw dcLaw pmLaw anLaw cdLaw ctLaw), slLaw⟩)
    (cLaw : PySem.W.codeIn K cdLaw "law" = true) (kLaw : PySem.W.keepIn K (.ref fLaw) = true)
    (z0 : PySem.W.nsIn K mainGlobals "range" = some none) (z1 : PySem.W.nsIn K mainGlobals "sum" = some none) (z2 : PySem.W.nsIn K mainGlobals "max" = some none) (z3 : PySem.W.nsIn K mainGlobals "min" = some none) (z4 : PySem.W.nsIn K mainGlobals "tuple" = some none) (z5 : PySem.W.nsIn K mainGlobals "len" = some none) (z6 : PySem.W.nsIn K mainGlobals "int" = some none) (z7 : PySem.W.nsIn K mainGlobals "abs" = some none) (z8 : PySem.W.nsIn K mainGlobals "repr" = some none) (z9 : PySem.W.nsIn K mainGlobals "isinstance" = some none)
    (aC : PySem.W.nsIn K mainGlobals "NoBody" = some (some (.ref C)))
    (aT : PySem.W.nsIn K mainGlobals "TapeError" = some (some (.ref T)))
    (xL : K.lookup C = some (excClassObj nm qn C N bs [.ref T, .type "ValueError", .type "Exception", .type "BaseException", .type "object"] true sn sub ab col dd m0 m1 m2 m3 m5 "ValueError.__new__"))
    (sa : PySem.W.findIn K (.ref C) "__setattr__" = some (some (.builtin "object.__setattr__")))
    (eC : PySem.W.subIn K (.ref C) (.type "BaseException") = some true)
    (tC : PySem.W.typeIn K (.ref C) = some (.type "type"))
    (kC : PySem.W.keepIn K (.ref C) = true)
    (iC : PySem.W.isClsIn K C = true)
    (sC : PySem.W.subIn K (.ref C) (.ref C) = some true)
    (nN : PySem.W.findIn K (.ref C) "number" = some none)
    (rT : PySem.W.readsIn K T (.type "type") = true)
    (gT : PySem.W.specialIn K (.ref T) "__getattribute__" = some (some (.builtin "type.__getattribute__")))
    (vT : PySem.W.findCls K (.ref T) (.type "type") "__init__" = some (.val (.builtin "ValueError.__init__")))
    (aI : PySem.W.findIn K (.ref C) "__init__" = some (some (.ref fI)))
    (tI' : PySem.W.typeIn K (.ref fI) = some (.type "function"))
    (lI : K.lookup fI = some ⟨ocI, odI, .func (PySem.W.fnOf "__init__" "NoBody.__init__" (defArgs sNB) (defBody sNB) (defScope sNB) (.ref tI) kVI dcI pmI anI cdI ctI), slI⟩)
    (cI : PySem.W.codeIn K cdI "NoBody.__init__" = true)
    (kI : PySem.W.keepIn K (.ref fI) = true)
    (lD : K.lookup tI = some ⟨ocD, odD, .seq #[Value.none] nD, slD⟩) :
    ∃ fd : FuncData, (∀ (s : Shared) (v : Value), BindsTo s fd ⟨[v], []⟩ [("_law_script", v)]) ∧ ∀ base : Heap, K.In base → base.Ns mainGlobals mg → FnG P w K mg base 5 fa fd ["_law_script"] (spLaw K) := by
  have e := hfa.symm.trans (PySem.W.mg_of X G aLaw)
  cases e
  have B : TxB mg := ⟨PySem.W.mg_none_of X G z0, PySem.W.mg_none_of X G z1, PySem.W.mg_none_of X G z2, PySem.W.mg_none_of X G z3, PySem.W.mg_none_of X G z4, PySem.W.mg_none_of X G z5, PySem.W.mg_none_of X G z6, PySem.W.mg_none_of X G z7, PySem.W.mg_none_of X G z8, PySem.W.mg_none_of X G z9⟩
  have E : TxE K mg C T fI := {
    oex := { cls := ⟨nm, qn, N, bs, _, sn, sub, ab, col, dd, m0, m1, m2, m3, m5, xL, by rfl⟩, sa := sa, exC := eC, tyC := tC, kC := kC }
    gT := PySem.W.mg_of X G aT
    gC := PySem.W.mg_of X G aC
    cr := ⟨rT, gT⟩
    vI := vT
    nN := nN
    iC := aI
    tI := tI'
    te := exm_mine eC iC tC sC }
  have FI : FunD K "__init__" "NoBody.__init__" (defArgs sNB) (defBody sNB) (defScope sNB) [V.non] [] fI (PySem.W.fnOf "__init__" "NoBody.__init__" (defArgs sNB) (defBody sNB) (defScope sNB) (.ref tI) kVI dcI pmI anI cdI ctI) :=
    ⟨⟨ocI, odI, .ref tI, kVI, dcI, pmI, anI, cdI, ctI, slI, rfl, lI, cI, .inr ⟨by decide, tI, _, [Value.none], nD, rfl, lD, rfl, .cons rfl .nil⟩, .inl rfl⟩, kI⟩
  obtain ⟨ds, rd, bI⟩ := FI.binds1 (ps := ["self", "number"]) 2 1 (by decide) (by decide) fun T kV doc pm an cdv ct us its h1 h2 => match us, its, h1, h2 with
    | [_, _], [_], _, _ => ⟨_, rfl, rfl⟩
  cases rd
  have FCo := fun_mk (st := sCo) lCo cCo kCo
  have ACo : At K mg "counts_to" sCo ["bounds", "data"] fCo _ := ⟨FCo, PySem.W.mg_of X G aCo, FCo.binds (ps := ["bounds", "data"]) fun _ _ _ _ _ _ us hl => match us, hl with | [_, _], _ => rfl⟩
  have FMa := fun_mk (st := sMa) lMa cMa kMa
  have AMa : At K mg "many_bodies" sMa ["bounds", "data"] fMa _ := ⟨FMa, PySem.W.mg_of X G aMa, FMa.binds (ps := ["bounds", "data"]) fun _ _ _ _ _ _ us hl => match us, hl with | [_, _], _ => rfl⟩
  have FBi := fun_mk (st := sBi) lBi cBi kBi
  have ABi : At K mg "bits_of" sBi ["bounds", "data"] fBi _ := ⟨FBi, PySem.W.mg_of X G aBi, FBi.binds (ps := ["bounds", "data"]) fun _ _ _ _ _ _ us hl => match us, hl with | [_, _], _ => rfl⟩
  have FBo := fun_mk (st := sBo) lBo cBo kBo
  have ABo : At K mg "body_at" sBo ["bounds", "data", "number"] fBo _ := ⟨FBo, PySem.W.mg_of X G aBo, FBo.binds (ps := ["bounds", "data", "number"]) fun _ _ _ _ _ _ us hl => match us, hl with | [_, _, _], _ => rfl⟩
  have FNu := fun_mk (st := sNu) lNu cNu kNu
  have ANu : At K mg "number_of" sNu ["bounds", "data", "body"] fNu _ := ⟨FNu, PySem.W.mg_of X G aNu, FNu.binds (ps := ["bounds", "data", "body"]) fun _ _ _ _ _ _ us hl => match us, hl with | [_, _, _], _ => rfl⟩
  have FBag := fun_mk (st := sBag) lBag cBag kBag
  have ABag : At K mg "_law_bag" sBag ["_law_script"] fBag _ := ⟨FBag, PySem.W.mg_of X G aBag, FBag.binds (ps := ["_law_script"]) fun _ _ _ _ _ _ us hl => match us, hl with | [_], _ => rfl⟩
  have FTk := fun_mk (st := sTk) lTk cTk kTk
  have ATk : At K mg "_law_take" sTk ["_law_bag_here", "_law_many"] fTk _ := ⟨FTk, PySem.W.mg_of X G aTk, FTk.binds (ps := ["_law_bag_here", "_law_many"]) fun _ _ _ _ _ _ us hl => match us, hl with | [_, _], _ => rfl⟩
  have FSm := fun_mk (st := sSm) lSm cSm kSm
  have ASm : At K mg "_law_some" sSm ["_law_bag_here", "_law_things"] fSm _ := ⟨FSm, PySem.W.mg_of X G aSm, FSm.binds (ps := ["_law_bag_here", "_law_things"]) fun _ _ _ _ _ _ us hl => match us, hl with | [_, _], _ => rfl⟩
  have FAl := fun_mk (st := sAl) lAl cAl kAl
  have AAl : At K mg "_law_alike" sAl ["_law_found", "_law_due"] fAl _ := ⟨FAl, PySem.W.mg_of X G aAl, FAl.binds (ps := ["_law_found", "_law_due"]) fun _ _ _ _ _ _ us hl => match us, hl with | [_, _], _ => rfl⟩
  have FCm := fun_mk (st := sCm) lCm cCm kCm
  have ACm : At K mg "_law_common" sCm ["_law_one", "_law_other"] fCm _ := ⟨FCm, PySem.W.mg_of X G aCm, FCm.binds (ps := ["_law_one", "_law_other"]) fun _ _ _ _ _ _ us hl => match us, hl with | [_, _], _ => rfl⟩
  have FFr := fun_mk (st := sFr) lFr cFr kFr
  have AFr : At K mg "_law_fraction" sFr ["_law_n", "_law_d"] fFr _ := ⟨FFr, PySem.W.mg_of X G aFr, FFr.binds (ps := ["_law_n", "_law_d"]) fun _ _ _ _ _ _ us hl => match us, hl with | [_, _], _ => rfl⟩
  have FSz := fun_mk (st := sSz) lSz cSz kSz
  have ASz : At K mg "_law_size" sSz ["_law_bag_here"] fSz _ := ⟨FSz, PySem.W.mg_of X G aSz, FSz.binds (ps := ["_law_bag_here"]) fun _ _ _ _ _ _ us hl => match us, hl with | [_], _ => rfl⟩
  have FLC := fun_mk (st := sLC) lLC cLC kLC
  have ALC : At K mg "_law_counts" sLC ["_law_bounds", "_law_data"] fLC _ := ⟨FLC, PySem.W.mg_of X G aLC, FLC.binds (ps := ["_law_bounds", "_law_data"]) fun _ _ _ _ _ _ us hl => match us, hl with | [_, _], _ => rfl⟩
  have FWd := fun_mk (st := sWd) lWd cWd kWd
  have AWd : At K mg "_law_wide" sWd ["_law_bag_here"] fWd _ := ⟨FWd, PySem.W.mg_of X G aWd, FWd.binds (ps := ["_law_bag_here"]) fun _ _ _ _ _ _ us hl => match us, hl with | [_], _ => rfl⟩
  have FEn := fun_mk (st := sEn) lEn cEn kEn
  have AEn : At K mg "_law_end" sEn ["_law_bounds", "_law_data", "_law_counts_here", "_law_is_least"] fEn _ := ⟨FEn, PySem.W.mg_of X G aEn, FEn.binds (ps := ["_law_bounds", "_law_data", "_law_counts_here", "_law_is_least"]) fun _ _ _ _ _ _ us hl => match us, hl with | [_, _, _, _], _ => rfl⟩
  have FNm := fun_mk (st := sNm) lNm cNm kNm
  have ANm : At K mg "_law_number" sNm ["_law_bag_here", "_law_most"] fNm _ := ⟨FNm, PySem.W.mg_of X G aNm, FNm.binds (ps := ["_law_bag_here", "_law_most"]) fun _ _ _ _ _ _ us hl => match us, hl with | [_, _], _ => rfl⟩
  have FOR := fun_mk (st := sOR) lOR cOR kOR
  have AOR : At K mg "_law_is_one_right" sOR ["_law_bounds", "_law_data", "_law_counts_here", "_law_number_here"] fOR _ := ⟨FOR, PySem.W.mg_of X G aOR, FOR.binds (ps := ["_law_bounds", "_law_data", "_law_counts_here", "_law_number_here"]) fun _ _ _ _ _ _ us hl => match us, hl with | [_, _, _, _], _ => rfl⟩
  have FIT := fun_mk (st := sIT) lIT cIT kIT
  have AIT : At K mg "_law_is_there" sIT ["_law_bounds", "_law_data", "_law_number_here"] fIT _ := ⟨FIT, PySem.W.mg_of X G aIT, FIT.binds (ps := ["_law_bounds", "_law_data", "_law_number_here"]) fun _ _ _ _ _ _ us hl => match us, hl with | [_, _, _], _ => rfl⟩
  have FLaw := fun_mk (st := sLaw) lLaw cLaw kLaw
  have ALaw : At K mg "law" sLaw ["_law_script"] fa _ := ⟨FLaw, PySem.W.mg_of X G aLaw, FLaw.binds (ps := ["_law_script"]) fun _ _ _ _ _ _ us hl => match us, hl with | [_], _ => rfl⟩
  exact ⟨PySem.W.fnOf "law" "law" (defArgs sLaw) (defBody sLaw) (defScope sLaw) .none kVLaw dcLaw pmLaw anLaw cdLaw ctLaw, fun s v => .of_eq rfl, fun base _ _ => all_law B E FI bI ACo AMa ABi ABo ANu ABag ATk ASm AAl ACm AFr ASz ALC AWd AEn ANm AOR AIT ALaw⟩
end K42
open PySem PySem.W PyProof.Rows
set_option maxRecDepth 100000 in
set_option maxHeartbeats 0 in
theorem PySem.Challenge.cw_flutterheld_k42_whole_each_number_one_bo_holds : PySem.Challenge.rw_flutterheld_k42_whole_each_number_one_bo.Holds := by
  w_on; o_law; k_head; (case hw => w_witness2)
  k_fill
  refine K42.walk_ofG (l := PySem.Challenge.rw_flutterheld_k42_whole_each_number_one_bo) (n := 63) (k := 5) (x := "_law_script") (sp := K42.spLaw) rfl (by decide) rfl ⟨rfl, by decide, by decide⟩ (fun w h Y => PySem.W.kIn_of Y) ?F (fun K H a ns _ hS => ⟨a, ns, rfl, hS, fun _ => rfl⟩)
  case F =>
    intro w mg fa h KX G hmg
    refine' K42.all_mk KX G hmg ?aCo ?lCo ?cCo ?kCo ?aMa ?lMa ?cMa ?kMa ?aBi ?lBi ?cBi ?kBi ?aBo ?lBo ?cBo ?kBo ?aNu ?lNu ?cNu ?kNu ?aBag ?lBag ?cBag ?kBag ?aTk ?lTk ?cTk ?kTk ?aSm ?lSm ?cSm ?kSm ?aAl ?lAl ?cAl ?kAl ?aCm ?lCm ?cCm ?kCm ?aFr ?lFr ?cFr ?kFr ?aSz ?lSz ?cSz ?kSz ?aLC ?lLC ?cLC ?kLC ?aWd ?lWd ?cWd ?kWd ?aEn ?lEn ?cEn ?kEn ?aNm ?lNm ?cNm ?kNm ?aOR ?lOR ?cOR ?kOR ?aIT ?lIT ?cIT ?kIT ?aLaw ?lLaw ?cLaw ?kLaw ?z0 ?z1 ?z2 ?z3 ?z4 ?z5 ?z6 ?z7 ?z8 ?z9 ?aC ?aT ?xL ?sa ?eC ?tC ?kC ?iC ?sC ?nN ?rT ?gT ?vT ?aI ?tI' ?lI ?cI ?kI ?lD
    (case aCo => k_is)
    (case lCo => k_is)
    (case cCo => k_is)
    (case kCo => k_is)
    (case aMa => k_is)
    (case lMa => k_is)
    (case cMa => k_is)
    (case kMa => k_is)
    (case aBi => k_is)
    (case lBi => k_is)
    (case cBi => k_is)
    (case kBi => k_is)
    (case aBo => k_is)
    (case lBo => k_is)
    (case cBo => k_is)
    (case kBo => k_is)
    (case aNu => k_is)
    (case lNu => k_is)
    (case cNu => k_is)
    (case kNu => k_is)
    (case aBag => k_is)
    (case lBag => k_is)
    (case cBag => k_is)
    (case kBag => k_is)
    (case aTk => k_is)
    (case lTk => k_is)
    (case cTk => k_is)
    (case kTk => k_is)
    (case aSm => k_is)
    (case lSm => k_is)
    (case cSm => k_is)
    (case kSm => k_is)
    (case aAl => k_is)
    (case lAl => k_is)
    (case cAl => k_is)
    (case kAl => k_is)
    (case aCm => k_is)
    (case lCm => k_is)
    (case cCm => k_is)
    (case kCm => k_is)
    (case aFr => k_is)
    (case lFr => k_is)
    (case cFr => k_is)
    (case kFr => k_is)
    (case aSz => k_is)
    (case lSz => k_is)
    (case cSz => k_is)
    (case kSz => k_is)
    (case aLC => k_is)
    (case lLC => k_is)
    (case cLC => k_is)
    (case kLC => k_is)
    (case aWd => k_is)
    (case lWd => k_is)
    (case cWd => k_is)
    (case kWd => k_is)
    (case aEn => k_is)
    (case lEn => k_is)
    (case cEn => k_is)
    (case kEn => k_is)
    (case aNm => k_is)
    (case lNm => k_is)
    (case cNm => k_is)
    (case kNm => k_is)
    (case aOR => k_is)
    (case lOR => k_is)
    (case cOR => k_is)
    (case kOR => k_is)
    (case aIT => k_is)
    (case lIT => k_is)
    (case cIT => k_is)
    (case kIT => k_is)
    (case aLaw => k_is)
    (case lLaw => k_is)
    (case cLaw => k_is)
    (case kLaw => k_is)
    (case z0 => k_is)
    (case z1 => k_is)
    (case z2 => k_is)
    (case z3 => k_is)
    (case z4 => k_is)
    (case z5 => k_is)
    (case z6 => k_is)
    (case z7 => k_is)
    (case z8 => k_is)
    (case z9 => k_is)
    (case aC => k_is)
    (case aT => k_is)
    (case xL => k_is)
    (case sa => k_is)
    (case eC => k_is)
    (case tC => k_is)
    (case kC => k_is)
    (case iC => k_is)
    (case sC => k_is)
    (case nN => k_is)
    (case rT => k_is)
    (case gT => k_is)
    (case vT => k_is)
    (case aI => k_is)
    (case tI' => k_is)
    (case lI => k_is)
    (case cI => k_is)
    (case kI => k_is)
    (case lD => k_is)
