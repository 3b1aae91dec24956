import PyProof.Rows.All
import Wide.All
import OpenK.AllK
import Wide.FinOn
import HandS.ForMost
import HandS.ClsMeth
import HandS.Star
import HandS.Defaults
import HandS.MakeKw
import HandS.MakeKwOnly
import HandS.RaiseMore
import HandS.SlotsOwn
import HandS.Strs
import HandS.SortInts
import HandS.SetBool
import KE.KDictDisplayH
import PyProof.ReprRoads
import PyProof.ReprLen
import HandS.NestedK
import HandS.Walk
import HandS.Conv
import HandS.Zip
import HandS.TupMul
import HandS.TupAny
import HandS.Style
import HandS.EndTab
import PySem.Challenge.RW_whateverboxes_k79_whole_sorters_and_mach
set_option linter.all false
namespace Wb
/-! plain mathematics: machines that read digits, last digits, remainders -/
def nxt (S : List (List Nat)) (s d : Nat) : Nat := (S.getD s []).getD d 0
/-- the state behind the digits of n, the units first -/
def run (S : List (List Nat)) (b s n : Nat) : Nat :=
  if h : n = 0 ∨ b < 2 then s else run S b (nxt S s (n % b)) (n / b)
termination_by n
decreasing_by exact Nat.div_lt_self (by omega) (by omega)
/-- the last digit that is not 0 -/
def ld (b n : Nat) : Nat :=
  if h : n % b ≠ 0 ∨ n = 0 ∨ b < 2 then n % b else ld b (n / b)
termination_by n
decreasing_by exact Nat.div_lt_self (by omega) (by omega)

theorem run_nil (S : List (List Nat)) (b s : Nat) : run S b s 0 = s := by rw [run]; exact dif_pos (.inl rfl)
theorem run_step {S : List (List Nat)} {b s n : Nat} (hb : 2 ≤ b) (hn : 0 < n) : run S b s n = run S b (nxt S s (n % b)) (n / b) := by
  rw [run]; exact dif_neg (by omega)
theorem ld_stop {b n : Nat} (h : n % b ≠ 0) : ld b n = n % b := by rw [ld]; exact dif_pos (.inl h)
theorem ld_go {b n : Nat} (h : n % b = 0) (hb : 2 ≤ b) (hn : 0 < n) : ld b n = ld b (n / b) := by rw [ld]; exact dif_neg (by omega)
theorem div_pos_of {b n : Nat} (h : n % b = 0) (hb : 2 ≤ b) (hn : 0 < n) : 0 < n / b := by
  have := Nat.div_add_mod n b
  rcases Nat.eq_zero_or_pos (n / b) with e | e
  · rw [e, h] at this; omega
  · exact e
theorem ld_range {b : Nat} (hb : 2 ≤ b) : ∀ n, 0 < n → 1 ≤ ld b n ∧ ld b n < b := by
  intro n
  induction n using Nat.strongRecOn with
  | _ n ih =>
    intro hn
    by_cases h : n % b = 0
    · rw [ld_go h hb hn]
      exact ih _ (Nat.div_lt_self hn (by omega)) (div_pos_of h hb hn)
    · rw [ld_stop h]
      have := Nat.mod_lt n (show b > 0 by omega)
      omega

structure Mac where
  b : Nat
  S : List (List Nat)
  B : List Nat
  many : Nat
def Mac.val (M : Mac) (n : Nat) : Nat := M.B.getD (run M.S M.b 0 n) 0
/-- what Machine(base, steps, boxes) wants -/
structure Raw (b : Nat) (S : List (List Nat)) (B : List Nat) : Prop where
  b2 : 2 ≤ b
  b10 : b ≤ 10
  pos : 0 < S.length
  lenS : S.length ≤ 4000
  lenB : B.length = S.length
  row : ∀ s, s < S.length → (S.getD s []).length = b
  lt : ∀ s d, s < S.length → d < b → nxt S s d < S.length
  zero : ∀ s, s < S.length → B.getD (nxt S s 0) 0 = B.getD s 0
  box : ∀ s, s < S.length → B.getD s 0 < 200
structure Closed (S : List (List Nat)) (b : Nat) (F : List Nat) : Prop where
  zero : 0 ∈ F
  lt : ∀ s, s ∈ F → s < S.length
  go : ∀ s d, s ∈ F → d < b → nxt S s d ∈ F
theorem Closed.run {S : List (List Nat)} {b : Nat} {F : List Nat} (c : Closed S b F) (hb : 2 ≤ b) : ∀ n s, s ∈ F → Wb.run S b s n ∈ F := by
  intro n
  induction n using Nat.strongRecOn with
  | _ n ih =>
    intro s hs
    rcases Nat.eq_zero_or_pos n with e | e
    · rw [e, run_nil]; exact hs
    · rw [run_step hb e]
      exact ih _ (Nat.div_lt_self e (by omega)) _ (c.go s _ hs (Nat.mod_lt n (by omega)))
theorem Raw.run_lt {b : Nat} {S : List (List Nat)} {B : List Nat} (r : Raw b S B) : ∀ n s, s < S.length → run S b s n < S.length := by
  intro n
  induction n using Nat.strongRecOn with
  | _ n ih =>
    intro s hs
    rcases Nat.eq_zero_or_pos n with e | e
    · rw [e, run_nil]; exact hs
    · rw [run_step r.b2 e]
      exact ih _ (Nat.div_lt_self e (by have := r.b2; omega)) _ (r.lt s _ hs (Nat.mod_lt n (by have := r.b2; omega)))
/-- a machine as it stands -/
structure Mac.Ok (M : Mac) : Prop where
  raw : Raw M.b M.S M.B
  top : ∀ F, Closed M.S M.b F → ∃ s, s ∈ F ∧ M.B.getD s 0 + 1 = M.many
  le : M.many ≤ 200

/-! ### by last digits -/
def lastS (b : Nat) : List (List Nat) := List.range b :: (List.range (b - 1)).map fun d => List.replicate b (d + 1)
def lastB (b : Nat) : List Nat := 0 :: List.range (b - 1)
theorem lastS_len {b : Nat} (hb : 2 ≤ b) : (lastS b).length = b := by unfold lastS; simp; omega
theorem lastS_zero {b d : Nat} (hd : d < b) : nxt (lastS b) 0 d = d := by
  unfold nxt lastS; simp [List.getD, hd]
theorem lastS_succ {b s : Nat} (hs : s + 1 < b) : (lastS b).getD (s + 1) [] = List.replicate b (s + 1) := by
  unfold lastS; simp [List.getD, show s < b - 1 by omega]
theorem lastS_pos {b s d : Nat} (hs : s + 1 < b) (hd : d < b) : nxt (lastS b) (s + 1) d = s + 1 := by
  unfold nxt; rw [lastS_succ hs]; simp [List.getD, hd]
theorem lastB_get {b s : Nat} (hs : s < b) : (lastB b).getD s 0 = s - 1 := by
  unfold lastB
  cases s with
  | zero => rfl
  | succ s => simp [List.getD, show s < b - 1 by omega]
theorem last_run_pos {b s : Nat} (hb : 2 ≤ b) (hs : s + 1 < b) : ∀ n, run (lastS b) b (s + 1) n = s + 1 := by
  intro n
  induction n using Nat.strongRecOn with
  | _ n ih =>
    rcases Nat.eq_zero_or_pos n with e | e
    · rw [e, run_nil]
    · rw [run_step hb e, lastS_pos hs (Nat.mod_lt n (by omega))]
      exact ih _ (Nat.div_lt_self e (by omega))
theorem last_run {b : Nat} (hb : 2 ≤ b) : ∀ n, 0 < n → run (lastS b) b 0 n = ld b n := by
  intro n
  induction n using Nat.strongRecOn with
  | _ n ih =>
    intro e
    have hm := Nat.mod_lt n (show b > 0 by omega)
    rw [run_step hb e, lastS_zero hm]
    by_cases h : n % b = 0
    · rw [h, ld_go h hb e]
      exact ih _ (Nat.div_lt_self e (by omega)) (div_pos_of h hb e)
    · rw [ld_stop h]
      obtain ⟨k, hk⟩ : ∃ k, n % b = k + 1 := ⟨n % b - 1, by omega⟩
      rw [hk]
      exact last_run_pos hb (by omega) _
theorem last_raw {b : Nat} (hb : 2 ≤ b) (h10 : b ≤ 10) : Raw b (lastS b) (lastB b) := by
  have hl := lastS_len hb
  refine ⟨hb, h10, by omega, by omega, by rw [hl]; unfold lastB; simp; omega, fun s hs => ?_, fun s d hs hd => ?_, fun s hs => ?_, fun s hs => ?_⟩
  · cases s with
    | zero => unfold lastS; simp [List.getD]
    | succ s => rw [lastS_succ (by omega)]; simp
  · cases s with
    | zero => rw [lastS_zero hd]; omega
    | succ s => rw [lastS_pos (by omega) hd]; omega
  · cases s with
    | zero => rw [lastS_zero (by omega)]
    | succ s => rw [lastS_pos (by omega) (by omega)]
  · rw [lastB_get (by omega)]; omega
def lastM (b : Nat) : Mac := ⟨b, lastS b, lastB b, b - 1⟩
theorem last_top {b : Nat} (hb : 2 ≤ b) {F : List Nat} (c : Closed (lastS b) b F) : ∃ s, s ∈ F ∧ (lastB b).getD s 0 + 1 = b - 1 := by
  refine ⟨b - 1, ?_, ?_⟩
  · have := c.go 0 (b - 1) c.zero (by omega)
    rwa [lastS_zero (by omega)] at this
  · rw [lastB_get (by omega)]; omega
theorem last_le {b s : Nat} (hb : 2 ≤ b) (hs : s < b) : (lastB b).getD s 0 + 1 ≤ b - 1 := by
  rw [lastB_get hs]; omega
theorem last_val {b n : Nat} (hb : 2 ≤ b) (hn : 0 < n) : (lastM b).val n = ld b n - 1 := by
  show (lastB b).getD (run (lastS b) b 0 n) 0 = _
  rw [last_run hb n hn, lastB_get (ld_range hb n hn).2]
end Wb

set_option linter.all false
namespace Wb
/-! ### by remainders: the states are pairs (remainder, power) -/
def stepM (b m : Nat) (q : Nat × Nat) (d : Nat) : Nat × Nat := ((q.1 + d * q.2) % m, q.2 * b % m)
def gp (st : List (Nat × Nat)) (i : Nat) : Nat × Nat := st.getD i (0, 0)
/-- what explored hands back -/
structure Expl (b m : Nat) (st : List (Nat × Nat)) (S : List (List Nat)) : Prop where
  pos : 0 < st.length
  len : S.length = st.length
  size : st.length ≤ m * m
  first : gp st 0 = (0, 1 % m)
  small : ∀ q, q ∈ st → q.1 < m ∧ q.2 < m
  row : ∀ s, s < st.length → (S.getD s []).length = b
  lt : ∀ s d, s < st.length → d < b → nxt S s d < st.length
  go : ∀ s d, s < st.length → d < b → gp st (nxt S s d) = stepM b m (gp st s) d
def modB (st : List (Nat × Nat)) : List Nat := st.map (·.1)
theorem modB_get {st : List (Nat × Nat)} {s : Nat} (hs : s < st.length) : (modB st).getD s 0 = (gp st s).1 := by
  unfold modB gp; simp [List.getD, hs]
theorem gp_mem {st : List (Nat × Nat)} {s : Nat} (hs : s < st.length) : gp st s ∈ st := by
  unfold gp; simp [List.getD, hs]
theorem stepM_zero {b m : Nat} {q : Nat × Nat} (h : q.1 < m) : (stepM b m q 0).1 = q.1 := by
  unfold stepM; simp; exact Nat.mod_eq_of_lt h
theorem Expl.run_val {b m : Nat} {st : List (Nat × Nat)} {S : List (List Nat)} (e : Expl b m st S) (hb : 2 ≤ b) : ∀ n s, s < st.length →
    run S b s n < st.length ∧ (gp st (run S b s n)).1 = ((gp st s).1 + n * (gp st s).2) % m := by
  intro n
  induction n using Nat.strongRecOn with
  | _ n ih =>
    intro s hs
    rcases Nat.eq_zero_or_pos n with h | h
    · rw [h, run_nil]
      refine ⟨hs, ?_⟩
      rw [Nat.zero_mul, Nat.add_zero]
      exact (Nat.mod_eq_of_lt (e.small _ (gp_mem hs)).1).symm
    · have hd := Nat.mod_lt n (show b > 0 by omega)
      rw [run_step hb h]
      obtain ⟨h1, h2⟩ := ih (n / b) (Nat.div_lt_self h (by omega)) _ (e.lt s (n % b) hs hd)
      refine ⟨h1, ?_⟩
      rw [h2, e.go s _ hs hd]
      unfold stepM
      dsimp only
      have q : (gp st s).1 + n * (gp st s).2 = (gp st s).1 + n % b * (gp st s).2 + n / b * ((gp st s).2 * b) := by
        conv => lhs; rw [← Nat.mod_add_div n b]
        rw [Nat.add_mul, ← Nat.add_assoc]
        congr 1
        rw [Nat.mul_comm b (n / b), Nat.mul_assoc, Nat.mul_comm b]
      rw [q, Nat.add_mod, Nat.add_mod ((gp st s).1 + n % b * (gp st s).2), Nat.mul_mod (n / b), Nat.mul_mod (n / b) ((gp st s).2 * b)]
      simp
theorem Expl.val {b m : Nat} {st : List (Nat × Nat)} {S : List (List Nat)} (e : Expl b m st S) (hb : 2 ≤ b) (hm : 1 ≤ m) (n : Nat) : (modB st).getD (run S b 0 n) 0 = n % m := by
  obtain ⟨h1, h2⟩ := e.run_val hb n 0 e.pos
  rw [modB_get h1, h2, e.first]
  dsimp only
  rw [Nat.zero_add, Nat.mul_mod]
  simp
theorem Expl.raw {b m : Nat} {st : List (Nat × Nat)} {S : List (List Nat)} (e : Expl b m st S) (hb : 2 ≤ b) (h10 : b ≤ 10) (hm : m ≤ 12) : Raw b S (modB st) := by
  have hsz : st.length ≤ 4000 := Nat.le_trans e.size (Nat.le_trans (Nat.mul_le_mul hm hm) (by decide))
  refine ⟨hb, h10, by rw [e.len]; exact e.pos, by rw [e.len]; exact hsz, by rw [e.len]; unfold modB; simp, fun s hs => e.row s (by rw [← e.len]; exact hs), fun s d hs hd => by rw [e.len] at hs ⊢; exact e.lt s d hs hd, fun s hs => ?_, fun s hs => ?_⟩
  · rw [e.len] at hs
    rw [modB_get (e.lt s 0 hs (by omega)), modB_get hs, e.go s 0 hs (by omega)]
    exact stepM_zero (e.small _ (gp_mem hs)).1
  · rw [e.len] at hs
    rw [modB_get hs]
    have := (e.small _ (gp_mem hs)).1
    omega
theorem Expl.top {b m : Nat} {st : List (Nat × Nat)} {S : List (List Nat)} (e : Expl b m st S) (hb : 2 ≤ b) (hm : 1 ≤ m) {F : List Nat} (c : Closed S b F) : ∃ s, s ∈ F ∧ (modB st).getD s 0 + 1 = m := by
  refine ⟨run S b 0 (m - 1), c.run hb _ _ c.zero, ?_⟩
  rw [e.val hb hm, Nat.mod_eq_of_lt (by omega)]
  omega
theorem Expl.box_le {b m : Nat} {st : List (Nat × Nat)} {S : List (List Nat)} (e : Expl b m st S) {s : Nat} (hs : s < st.length) : (modB st).getD s 0 + 1 ≤ m := by
  rw [modB_get hs]; exact (e.small _ (gp_mem hs)).1
def modM (b m : Nat) (st : List (Nat × Nat)) (S : List (List Nat)) : Mac := ⟨b, S, modB st, m⟩

/-! ### products -/
theorem flat_len {α β γ : Type} (f : α → β → γ) (l2 : List β) : ∀ l1 : List α, (l1.flatMap fun x => l2.map (f x)).length = l1.length * l2.length
  | [] => by simp
  | x :: l1 => by
    rw [List.flatMap_cons, List.length_append, flat_len f l2 l1, List.length_map, List.length_cons, Nat.succ_mul, Nat.add_comm]
theorem flat_get {α β γ : Type} (f : α → β → γ) (l2 : List β) {j : Nat} {y : β} (hj : l2[j]? = some y) : ∀ (l1 : List α) (i : Nat) (x : α), l1[i]? = some x →
    (l1.flatMap fun x => l2.map (f x))[i * l2.length + j]? = some (f x y)
  | [], i, x, h => by simp at h
  | z :: l1, 0, x, h => by
    have hl : j < l2.length := (List.getElem?_eq_some_iff.mp hj).1
    have e : z = x := by simpa using h
    subst e
    rw [List.flatMap_cons, Nat.zero_mul, Nat.zero_add, List.getElem?_append_left (by simpa using hl), List.getElem?_map, hj]
    rfl
  | z :: l1, i + 1, x, h => by
    rw [List.flatMap_cons, List.getElem?_append_right (by rw [List.length_map, Nat.succ_mul]; omega), List.length_map]
    have e : (i + 1) * l2.length + j - l2.length = i * l2.length + j := by rw [Nat.succ_mul]; omega
    rw [e]
    exact flat_get f l2 hj l1 i x (by simpa using h)
def pairRow (w : Nat) (r t : List Nat) : List Nat := List.zipWith (fun x y => x * w + y) r t
def prodS (S1 S2 : List (List Nat)) : List (List Nat) := S1.flatMap fun r => S2.map (pairRow S2.length r)
def prodB (k : Nat) (B1 B2 : List Nat) : List Nat := B1.flatMap fun x => B2.map fun y => x * k + y
theorem getD_of {α : Type} {l : List α} {i : Nat} {x d : α} (h : l[i]? = some x) : l.getD i d = x := by simp [List.getD, h]
theorem get_of {α : Type} {l : List α} {i : Nat} (d : α) (h : i < l.length) : l[i]? = some (l.getD i d) := by simp [List.getD, h]
section
variable {b k : Nat} {S1 S2 : List (List Nat)} {B1 B2 : List Nat}
theorem prodS_get {i j : Nat} (hi : i < S1.length) (hj : j < S2.length) : (prodS S1 S2).getD (i * S2.length + j) [] = pairRow S2.length (S1.getD i []) (S2.getD j []) :=
  getD_of (flat_get _ _ (get_of [] hj) _ _ _ (get_of [] hi))
theorem prodB_get {i j : Nat} (hi : i < B1.length) (hj : j < B2.length) : (prodB k B1 B2).getD (i * B2.length + j) 0 = B1.getD i 0 * k + B2.getD j 0 :=
  getD_of (flat_get (fun x y => x * k + y) _ (get_of 0 hj) _ _ _ (get_of 0 hi))
theorem prodS_nxt (r1 : Raw b S1 B1) (r2 : Raw b S2 B2) {i j d : Nat} (hi : i < S1.length) (hj : j < S2.length) (hd : d < b) :
    nxt (prodS S1 S2) (i * S2.length + j) d = nxt S1 i d * S2.length + nxt S2 j d := by
  unfold nxt
  rw [prodS_get hi hj]
  unfold pairRow
  have h1 : d < (S1.getD i []).length := by rw [r1.row i hi]; exact hd
  have h2 : d < (S2.getD j []).length := by rw [r2.row j hj]; exact hd
  refine getD_of ?_
  rw [List.getElem?_zipWith, get_of 0 h1, get_of 0 h2]
theorem idx_lt {i j n w : Nat} (hi : i < n) (hj : j < w) : i * w + j < n * w := by
  have : (i + 1) * w ≤ n * w := Nat.mul_le_mul_right w hi
  rw [Nat.succ_mul] at this
  omega
theorem idx_of {s n w : Nat} (h : s < n * w) : ∃ i j, i < n ∧ j < w ∧ s = i * w + j := by
  have hw : 0 < w := by
    rcases Nat.eq_zero_or_pos w with e | e
    · rw [e, Nat.mul_zero] at h; omega
    · exact e
  refine ⟨s / w, s % w, Nat.div_lt_of_lt_mul (by rw [Nat.mul_comm]; exact h), Nat.mod_lt s hw, ?_⟩
  have := Nat.div_add_mod s w
  rw [Nat.mul_comm] at this
  omega
theorem prod_raw (r1 : Raw b S1 B1) (r2 : Raw b S2 B2) (hz : S1.length * S2.length ≤ 4000) (hk : ∀ i j, i < S1.length → j < S2.length → B1.getD i 0 * k + B2.getD j 0 < 200) : Raw b (prodS S1 S2) (prodB k B1 B2) := by
  have l1 : (prodS S1 S2).length = S1.length * S2.length := flat_len _ _ _
  have l2 : (prodB k B1 B2).length = S1.length * S2.length := by unfold prodB; rw [flat_len (fun x y => x * k + y), r1.lenB, r2.lenB]
  refine ⟨r1.b2, r1.b10, by rw [l1]; exact Nat.mul_pos r1.pos r2.pos, by rw [l1]; exact hz, by rw [l1, l2], fun s hs => ?_, fun s d hs hd => ?_, fun s hs => ?_, fun s hs => ?_⟩
  all_goals rw [l1] at hs
  all_goals obtain ⟨i, j, hi, hj, rfl⟩ := idx_of hs
  · rw [prodS_get hi hj]; unfold pairRow; rw [List.length_zipWith, r1.row i hi, r2.row j hj]; omega
  · rw [prodS_nxt r1 r2 hi hj hd, l1]; exact idx_lt (r1.lt i d hi hd) (r2.lt j d hj hd)
  · have h0 : 0 < b := by have := r1.b2; omega
    rw [prodS_nxt r1 r2 hi hj h0, ← r2.lenB, prodB_get (by rw [r1.lenB]; exact r1.lt i 0 hi h0) (by rw [r2.lenB]; exact r2.lt j 0 hj h0), prodB_get (by rw [r1.lenB]; exact hi) (by rw [r2.lenB]; exact hj), r1.zero i hi, r2.zero j hj]
  · rw [← r2.lenB, prodB_get (by rw [r1.lenB]; exact hi) (by rw [r2.lenB]; exact hj)]; exact hk i j hi hj
theorem prod_run (r1 : Raw b S1 B1) (r2 : Raw b S2 B2) : ∀ n i j, i < S1.length → j < S2.length → run (prodS S1 S2) b (i * S2.length + j) n = run S1 b i n * S2.length + run S2 b j n := by
  intro n
  induction n using Nat.strongRecOn with
  | _ n ih =>
    intro i j hi hj
    rcases Nat.eq_zero_or_pos n with e | e
    · rw [e, run_nil, run_nil, run_nil]
    · have hd := Nat.mod_lt n (show b > 0 by have := r1.b2; omega)
      rw [run_step r1.b2 e, run_step r1.b2 e, run_step (S := S2) r1.b2 e, prodS_nxt r1 r2 hi hj hd]
      exact ih _ (Nat.div_lt_self e (by have := r1.b2; omega)) _ _ (r1.lt i _ hi hd) (r2.lt j _ hj hd)
theorem prod_val (r1 : Raw b S1 B1) (r2 : Raw b S2 B2) (n : Nat) : (prodB k B1 B2).getD (run (prodS S1 S2) b 0 n) 0 = B1.getD (run S1 b 0 n) 0 * k + B2.getD (run S2 b 0 n) 0 := by
  have e := prod_run r1 r2 n 0 0 r1.pos r2.pos
  rw [Nat.zero_mul, Nat.zero_add] at e
  rw [e, ← r2.lenB, prodB_get (by rw [r1.lenB]; exact r1.run_lt n 0 r1.pos) (by rw [r2.lenB]; exact r2.run_lt n 0 r2.pos)]
end
end Wb

set_option linter.all false
namespace Wb
/-! reached states -/
structure Tab (b : Nat) (S : List (List Nat)) : Prop where
  b2 : 2 ≤ b
  b10 : b ≤ 10
  pos : 0 < S.length
  lenS : S.length ≤ 4000
  row : ∀ s, s < S.length → (S.getD s []).length = b
  lt : ∀ s d, s < S.length → d < b → nxt S s d < S.length
theorem Raw.tab {b : Nat} {S : List (List Nat)} {B : List Nat} (r : Raw b S B) : Tab b S := ⟨r.b2, r.b10, r.pos, r.lenS, r.row, r.lt⟩
theorem nodup_le : ∀ (n : Nat) (L : List Nat), L.Nodup → (∀ x, x ∈ L → x < n) → L.length ≤ n
  | 0, [], _, _ => Nat.le_refl _
  | 0, x :: L, _, h => absurd (h x List.mem_cons_self) (Nat.not_lt_zero _)
  | n + 1, L, nd, h => by
    by_cases hn : n ∈ L
    · have h1 := nodup_le n (L.erase n) (nd.erase n) fun x hx => by
        have h2 := (nd.mem_erase_iff).mp hx
        have := h x h2.2
        have := h2.1
        omega
      rw [List.length_erase_of_mem hn] at h1
      omega
    · have h1 := nodup_le n L nd fun x hx => by
        have h2 := h x hx
        have h3 : x ≠ n := fun e => hn (e ▸ hx)
        omega
      omega
structure RInv (b : Nat) (S : List (List Nat)) (found fresh : List Nat) : Prop where
  nd : found.Nodup
  lt : ∀ x, x ∈ found → x < S.length
  zero : 0 ∈ found
  sub : ∀ x, x ∈ fresh → x ∈ found
  go : ∀ s d, s ∈ found → s ∉ fresh → d < b → nxt S s d ∈ found
theorem RInv.start {b : Nat} {S : List (List Nat)} (t : Tab b S) : RInv b S [0] [0] :=
  ⟨by simp, fun x hx => by simp at hx; subst hx; exact t.pos, by simp, fun x hx => hx, fun s d h1 h2 _ => absurd h1 h2⟩
def news (found bs : List Nat) : List Nat := bs.filter fun x => !decide (x ∈ found)
theorem mem_news {found bs : List Nat} {x : Nat} : x ∈ news found bs ↔ x ∈ bs ∧ x ∉ found := by
  unfold news; simp
def Succs (b : Nat) (S : List (List Nat)) (fresh : List Nat) (x : Nat) : Prop := ∃ s d, s ∈ fresh ∧ d < b ∧ x = nxt S s d
theorem RInv.step {b : Nat} {S : List (List Nat)} {found fresh bs : List Nat} (t : Tab b S) (r : RInv b S found fresh) (nd : bs.Nodup) (hb : ∀ x, x ∈ bs ↔ Succs b S fresh x) : RInv b S (found ++ news found bs) (news found bs) := by
  refine ⟨?_, fun x hx => ?_, List.mem_append_left _ r.zero, fun x hx => List.mem_append_right _ hx, fun s d h1 h2 hd => ?_⟩
  · refine List.nodup_append.mpr ⟨r.nd, nd.sublist List.filter_sublist, fun x hx y hy e => ?_⟩
    subst e
    exact (mem_news.mp hy).2 hx
  · rcases List.mem_append.mp hx with hx | hx
    · exact r.lt x hx
    · obtain ⟨s, d, hs, hd, rfl⟩ := (hb x).mp (mem_news.mp hx).1
      exact t.lt s d (r.lt s (r.sub s hs)) hd
  · have h3 : s ∈ found := (List.mem_append.mp h1).resolve_right h2
    by_cases hf : s ∈ fresh
    · have h4 : nxt S s d ∈ bs := (hb _).mpr ⟨s, d, hf, hd, rfl⟩
      by_cases h5 : nxt S s d ∈ found
      · exact List.mem_append_left _ h5
      · exact List.mem_append_right _ (mem_news.mpr ⟨h4, h5⟩)
    · exact List.mem_append_left _ (r.go s d h3 hf hd)
theorem RInv.closed {b : Nat} {S : List (List Nat)} {found : List Nat} (r : RInv b S found []) : Closed S b found := ⟨r.zero, r.lt, fun s d h hd => r.go s d h (by simp) hd⟩
theorem RInv.le {b : Nat} {S : List (List Nat)} {found fresh : List Nat} (r : RInv b S found fresh) : found.length ≤ S.length := nodup_le _ _ r.nd r.lt
theorem Closed.perm {b : Nat} {S : List (List Nat)} {F G : List Nat} (c : Closed S b F) (h : ∀ x, x ∈ G ↔ x ∈ F) : Closed S b G :=
  ⟨(h 0).mpr c.zero, fun s hs => c.lt s ((h s).mp hs), fun s d hs hd => (h _).mpr (c.go s d ((h s).mp hs) hd)⟩
/-- the measure of the loop -/
def rmeas (n : Nat) (found fresh : List Nat) : Nat := 2 * (n - found.length) + min 1 fresh.length
theorem rmeas_lt {b : Nat} {S : List (List Nat)} {found fresh bs : List Nat} (h0 : fresh ≠ []) (r' : RInv b S (found ++ news found bs) (news found bs)) : rmeas S.length (found ++ news found bs) (news found bs) < rmeas S.length found fresh := by
  have h1 := r'.le
  rw [List.length_append] at h1
  have h2 : 0 < fresh.length := List.length_pos_iff.mpr h0
  unfold rmeas
  rw [List.length_append]
  omega
/-! a set that a walk fills: L lists it -/
structure Lists (n : Nat) (St : Int → Bool) (k : Nat) (p : Nat → Prop) : Prop where
  ex : ∃ L : List Nat, L.Nodup ∧ (∀ x, x ∈ L → x < n) ∧ (∀ z : Int, St z = true ↔ ∃ x, x ∈ L ∧ (x : Int) = z) ∧ k = L.length ∧ ∀ x, x ∈ L ↔ p x
theorem Lists.nil {n : Nat} : Lists n (fun _ => false) 0 (fun _ => False) := ⟨[], by simp, by simp, by simp, rfl, by simp⟩
theorem Lists.le {n k : Nat} {St : Int → Bool} {p : Nat → Prop} (l : Lists n St k p) : k ≤ n := by
  obtain ⟨L, h1, h2, h3, rfl, h5⟩ := l
  exact nodup_le n L h1 h2
theorem Lists.congr {n k : Nat} {St : Int → Bool} {p q : Nat → Prop} (l : Lists n St k p) (h : ∀ x, p x ↔ q x) : Lists n St k q := by
  obtain ⟨L, h1, h2, h3, h4, h5⟩ := l
  exact ⟨L, h1, h2, h3, h4, fun x => (h5 x).trans (h x)⟩
theorem Lists.add {n k c : Nat} {St : Int → Bool} {p : Nat → Prop} (l : Lists n St k p) (hc : c < n) : Lists n (fun j => St j || decide (j = (c : Int))) (if St (c : Int) = true then k else k + 1) (fun x => p x ∨ x = c) := by
  obtain ⟨L, h1, h2, h3, h4, h5⟩ := l
  by_cases h : St (c : Int) = true
  · obtain ⟨y, hy, e⟩ := (h3 _).mp h
    have e : y = c := by omega
    subst e
    refine ⟨L, h1, h2, fun z => ?_, by rw [if_pos h]; exact h4, fun x => ?_⟩
    · rw [← h3 z]
      simp only [Bool.or_eq_true, decide_eq_true_eq]
      constructor
      · rintro (q | rfl)
        · exact q
        · exact h
      · exact .inl
    · rw [h5 x]
      constructor
      · exact .inl
      · rintro (q | rfl)
        · exact q
        · exact (h5 _).mp hy
  · have hn : c ∉ L := fun z => h ((h3 _).mpr ⟨c, z, rfl⟩)
    refine ⟨L ++ [c], ?_, fun x hx => ?_, fun z => ?_, by rw [if_neg h, h4]; simp, fun x => ?_⟩
    · refine List.nodup_append.mpr ⟨h1, by simp, fun x hx y hy e => ?_⟩
      subst e
      simp at hy
      subst hy
      exact hn hx
    · rcases List.mem_append.mp hx with hx | hx
      · exact h2 x hx
      · simp at hx; omega
    · simp only [Bool.or_eq_true, decide_eq_true_eq, List.mem_append, List.mem_singleton]
      rw [h3 z]
      constructor
      · rintro (⟨x, hx, e⟩ | rfl)
        · exact ⟨x, .inl hx, e⟩
        · exact ⟨c, .inr rfl, rfl⟩
      · rintro ⟨x, hx | rfl, e⟩
        · exact .inl ⟨x, hx, e⟩
        · exact .inr e.symm
    · rw [List.mem_append, List.mem_singleton, h5 x]
/-- the sorted members as naturals -/
theorem Lists.sorted {n k : Nat} {St : Int → Bool} {p : Nat → Prop} (l : Lists n St k p) {ns : List Int} (hs : ns.Pairwise (· < ·)) (hm : ∀ z, z ∈ ns ↔ St z = true) : ∃ bs : List Nat, ns = bs.map (fun x : Nat => (x : Int)) ∧ bs.Nodup ∧ (∀ x, x ∈ bs ↔ p x) := by
  obtain ⟨L, h1, h2, h3, h4, h5⟩ := l
  have nn : ∀ z, z ∈ ns → ((z.toNat : Nat) : Int) = z := fun z hz => by
    obtain ⟨x, _, e⟩ := (h3 z).mp ((hm z).mp hz)
    omega
  have e : ns = (ns.map Int.toNat).map (fun x : Nat => (x : Int)) := by
    rw [List.map_map]
    conv => lhs; rw [← List.map_id ns]
    exact List.map_congr_left fun z hz => (nn z hz).symm
  refine ⟨ns.map Int.toNat, e, ?_, fun x => ?_⟩
  · have nd : ns.Nodup := hs.imp fun h => by omega
    rw [e] at nd
    exact (List.pairwise_map.mp nd).imp fun h e => h (by rw [e])
  · rw [← h5 x]
    constructor
    · intro hx
      obtain ⟨z, hz, rfl⟩ := List.mem_map.mp hx
      obtain ⟨y, hy, e⟩ := (h3 z).mp ((hm z).mp hz)
      have : y = z.toNat := by omega
      exact this ▸ hy
    · intro hx
      exact List.mem_map.mpr ⟨(x : Int), (hm _).mpr ((h3 _).mpr ⟨x, hx, rfl⟩), by simp⟩
end Wb

set_option linter.all false
namespace Wb
/-! what explored fills -/
structure EInv (b m : Nat) (st : List (Nat × Nat)) (S : List (List Nat)) : Prop where
  pos : 0 < st.length
  nd : st.Nodup
  small : ∀ q, q ∈ st → q.1 < m ∧ q.2 < m
  first : gp st 0 = (0, 1 % m)
  le : S.length ≤ st.length
  rows : ∀ s, s < S.length → (S.getD s []).length = b ∧ ∀ d, d < b → nxt S s d < st.length ∧ gp st (nxt S s d) = stepM b m (gp st s) d
theorem stepM_small {b m d : Nat} {q : Nat × Nat} (hm : 0 < m) : (stepM b m q d).1 < m ∧ (stepM b m q d).2 < m := ⟨Nat.mod_lt _ hm, Nat.mod_lt _ hm⟩
theorem EInv.start {b m : Nat} (hm : 0 < m) : EInv b m [(0, 1 % m)] [] :=
  ⟨by simp, by simp, fun q hq => by simp at hq; subst hq; exact ⟨hm, Nat.mod_lt _ hm⟩, rfl, by simp, fun s h => by simp at h⟩
theorem nodup_map {α β : Type} {f : α → β} {l : List α} (inj : ∀ x, x ∈ l → ∀ y, y ∈ l → f x = f y → x = y) (nd : l.Nodup) : (l.map f).Nodup := by
  induction l with
  | nil => simp
  | cons a l ih =>
    rw [List.map_cons, List.nodup_cons]
    rw [List.nodup_cons] at nd
    refine ⟨fun h => ?_, ih (fun x hx y hy => inj x (List.mem_cons_of_mem _ hx) y (List.mem_cons_of_mem _ hy)) nd.2⟩
    obtain ⟨y, hy, e⟩ := List.mem_map.mp h
    have := inj y (List.mem_cons_of_mem _ hy) a List.mem_cons_self e
    subst this
    exact nd.1 hy
theorem pairs_le {m : Nat} {st : List (Nat × Nat)} (nd : st.Nodup) (h : ∀ q, q ∈ st → q.1 < m ∧ q.2 < m) : st.length ≤ m * m := by
  have h1 : (st.map fun q => q.1 * m + q.2).Nodup := nodup_map (fun x hx y hy e => by
    have hx2 := (h x hx).2
    have hy2 := (h y hy).2
    have e1 : (x.1 * m + x.2) / m = x.1 := by
      rw [Nat.mul_comm, Nat.mul_add_div (by omega), Nat.div_eq_of_lt hx2]; rfl
    have e2 : (y.1 * m + y.2) / m = y.1 := by
      rw [Nat.mul_comm, Nat.mul_add_div (by omega), Nat.div_eq_of_lt hy2]; rfl
    have e3 : x.1 = y.1 := by rw [← e1, ← e2]; exact congrArg (· / m) e
    have e4 : x.2 = y.2 := by
      have e' : x.1 * m + x.2 = y.1 * m + y.2 := e
      rw [e3] at e'
      omega
    exact Prod.ext e3 e4) nd
  have h2 := nodup_le (m * m) _ h1 fun x hx => by
    obtain ⟨q, hq, rfl⟩ := List.mem_map.mp hx
    exact idx_lt (h q hq).1 (h q hq).2
  rwa [List.length_map] at h2
theorem EInv.size {b m : Nat} {st : List (Nat × Nat)} {S : List (List Nat)} (e : EInv b m st S) : st.length ≤ m * m := pairs_le e.nd e.small
theorem gp_app {st : List (Nat × Nat)} {q : Nat × Nat} {i : Nat} (h : i < st.length) : gp (st ++ [q]) i = gp st i := by
  unfold gp
  rw [List.getD_eq_getElem?_getD, List.getD_eq_getElem?_getD, List.getElem?_append_left h]
theorem gp_end {st : List (Nat × Nat)} {q : Nat × Nat} : gp (st ++ [q]) st.length = q := by
  unfold gp
  rw [List.getD_eq_getElem?_getD, List.getElem?_append_right (Nat.le_refl _)]
  simp
theorem EInv.grow {b m : Nat} {st : List (Nat × Nat)} {S : List (List Nat)} {q : Nat × Nat} (e : EInv b m st S) (hn : q ∉ st) (hq : q.1 < m ∧ q.2 < m) : EInv b m (st ++ [q]) S := by
  refine ⟨by rw [List.length_append]; have := e.pos; omega, ?_, fun z hz => ?_, ?_, by rw [List.length_append]; have := e.le; omega, fun s hs => ?_⟩
  · refine List.nodup_append.mpr ⟨e.nd, by simp, fun x hx y hy z => ?_⟩
    simp at hy
    subst hy z
    exact hn hx
  · rcases List.mem_append.mp hz with hz | hz
    · exact e.small z hz
    · simp at hz; subst hz; exact hq
  · rw [gp_app e.pos]; exact e.first
  · obtain ⟨h1, h2⟩ := e.rows s hs
    refine ⟨h1, fun d hd => ?_⟩
    obtain ⟨h3, h4⟩ := h2 d hd
    rw [gp_app h3, gp_app (Nat.lt_of_lt_of_le hs e.le), List.length_append]
    exact ⟨by omega, h4⟩
/-- a row as far as it is filled -/
structure RowTo (b m : Nat) (st : List (Nat × Nat)) (q : Nat × Nat) (row : List Nat) (i : Nat) : Prop where
  len : row.length = i
  at_ : ∀ d, d < i → row.getD d 0 < st.length ∧ gp st (row.getD d 0) = stepM b m q d
theorem RowTo.nil {b m : Nat} {st : List (Nat × Nat)} {q : Nat × Nat} : RowTo b m st q [] 0 := ⟨rfl, fun d h => by omega⟩
theorem RowTo.grow {b m i : Nat} {st : List (Nat × Nat)} {q z : Nat × Nat} {row : List Nat} (r : RowTo b m st q row i) : RowTo b m (st ++ [z]) q row i :=
  ⟨r.len, fun d hd => by
    obtain ⟨h1, h2⟩ := r.at_ d hd
    rw [gp_app h1, List.length_append]
    exact ⟨by omega, h2⟩⟩
theorem RowTo.push {b m i x : Nat} {st : List (Nat × Nat)} {q : Nat × Nat} {row : List Nat} (r : RowTo b m st q row i) (hx : x < st.length) (e : gp st x = stepM b m q i) : RowTo b m st q (row ++ [x]) (i + 1) := by
  refine ⟨by rw [List.length_append, r.len]; rfl, fun d hd => ?_⟩
  rcases Nat.lt_succ_iff_lt_or_eq.mp hd with h | rfl
  · rw [List.getD_eq_getElem?_getD, List.getElem?_append_left (by rw [r.len]; exact h), ← List.getD_eq_getElem?_getD]
    exact r.at_ d h
  · rw [List.getD_eq_getElem?_getD, List.getElem?_append_right (by rw [r.len]; exact Nat.le_refl _), r.len]
    simp
    exact ⟨hx, e⟩
theorem EInv.row {b m : Nat} {st : List (Nat × Nat)} {S : List (List Nat)} {row : List Nat} (e : EInv b m st S) (hl : S.length < st.length) (r : RowTo b m st (gp st S.length) row b) : EInv b m st (S ++ [row]) := by
  refine ⟨e.pos, e.nd, e.small, e.first, by rw [List.length_append]; exact hl, fun s hs => ?_⟩
  rw [List.length_append] at hs
  by_cases h : s < S.length
  · have e1 : (S ++ [row]).getD s [] = S.getD s [] := by
      rw [List.getD_eq_getElem?_getD, List.getD_eq_getElem?_getD, List.getElem?_append_left h]
    unfold nxt
    rw [e1]
    exact e.rows s h
  · have hs : s = S.length := by simp at hs; omega
    subst hs
    have e1 : (S ++ [row]).getD S.length [] = row := by
      rw [List.getD_eq_getElem?_getD, List.getElem?_append_right (Nat.le_refl _)]
      simp
    unfold nxt
    rw [e1]
    exact ⟨r.len, r.at_⟩
theorem EInv.done {b m : Nat} {st : List (Nat × Nat)} {S : List (List Nat)} (e : EInv b m st S) (h : ¬ S.length < st.length) : Expl b m st S := by
  have hl : S.length = st.length := by have := e.le; omega
  exact ⟨e.pos, hl, e.size, e.first, e.small, fun s hs => (e.rows s (by omega)).1, fun s d hs hd => ((e.rows s (by omega)).2 d hd).1, fun s d hs hd => ((e.rows s (by omega)).2 d hd).2⟩
end Wb

set_option Elab.async false
set_option linter.all false
set_option maxRecDepth 100000
set_option maxHeartbeats 4000000
namespace Wb
open PySem PySem.Spec PyProof.Rows L2
/-! ### rules of our own: calls -/
section
variable {X : Cx} {CX : CXT} {k : Nat} {C f p g : Addr} {mc : Value} {sp : Sp} {E : XK} {o e fe : Expr} {es : List Expr} {m x : Str} {pos apos np : Pos} {ta tf : TE} {t tk : TA} {pl : Sem Bool}

/-- a def's promise run at a call that does not come from a call node -/
theorem run_back {pins : List (Addr × Obj)} {sg : L2.St} {H : Hp} {s : Shared} {Q : VK} {us : List Value} {vs : List V} (F : FnR X.prog X.w X.K X.mg X.base CX k f sp) (hr : Room k X.A) (hx : Passes CX X E) (I : Inv X pins sg H s) (r : Vals vs us) (h : sp vs H Q E) :
    wpAny (model X.prog X.w) X.A (call (.ref f) us) (EP X pins sg Q) X.xe s := wpAny_call (run_fnR F hr hx I r h)

/-! a * b by the class's own __mul__ (the answer an object) -/
theorem op_own_mul (hc : PySem.W.selfFirst X.K C = true) (hs : PySem.W.findIn X.K (.ref C) (PySem.dunder "mul") = some (some (.ref g))) (hf : PySem.W.isFn X.K (.ref g) = true) (F : FnR X.prog X.w X.K X.mg X.base CX k g sp) (hr : Room k X.A) (hx : Passes CX X E) :
    OpR X (binaryOp .Mult) (fun x y H Q => ∃ a b dx dy fs gs, x = V.ref a ∧ y = V.ref b ∧ H a = some (.ins C dx fs) ∧ H b = some (.ins C dy gs) ∧ sp [V.ref a, V.ref b] H (fun v H' => (∃ q, v = V.ref q) ∧ Q v H') E) := by
  intro pins sg H s x y v u Q I rx ry h
  obtain ⟨a, b, dx, dy, fs, gs, rfl, rfl, ha, hb, hsp⟩ := h
  obtain rfl : v = Value.ref a := rx
  obtain rfl : u = Value.ref b := ry
  obtain ⟨_, O, _⟩ := ins_get I.hok ha
  obtain ⟨_, O', _⟩ := ins_get I.hok hb
  obtain ⟨_, J, _⟩ := O.look
  obtain ⟨_, J', _⟩ := O'.look
  obtain ⟨_, hF⟩ := I.fr
  refine PySem.W.binop_K hF I.ok.mod.kin J J'.type hc hs hf (thn (run_back (us := [.ref a, .ref b]) (vs := [V.ref a, V.ref b]) F hr hx I (.cons rfl (.cons rfl .nil)) hsp) fun z s' hz => ?_)
  obtain ⟨y, H', I', ry, ⟨q, hq⟩, qq⟩ := hz
  subst hq
  obtain rfl : z = Value.ref q := ry
  exact ⟨V.ref q, H', I', rfl, qq⟩

/-! calling an instance whose class is one of several: T tells each class's promise -/
def tCallM (X : Cx) (T : Addr → Sp → Prop) (E : XK) (tf : TE) (t : TA) : TE := fun sg H Q => tf sg H fun y H1 => ∃ a, y = V.ref a ∧ t sg H1 fun vs H2 => ∃ C sp, T C sp ∧ StX.InsC X H2 a C ∧ sp (V.ref a :: vs) H2 Q E
theorem pe_callM {T : Addr → Sp → Prop} (hT : ∀ C sp, T C sp → ∃ g, StX.CallO X.K C g ∧ FnR X.prog X.w X.K X.mg X.base CX k g sp) (hf : PE X fe tf) (hr : Room k X.A) (hx : Passes CX X E) (ha : PA X (e :: es) t)
    (hev : eval (.Call fe (e :: es) [] pos) X.env = (do callWith pos (← eval fe X.env) [] (backTo pos (starEach (e :: es) X.env)) (backToKw pos (keywordEach [] X.env))) := by rfl)
    (hse : starEach (e :: es) X.env = (false, eval e X.env) :: starEach es X.env := by rfl) (hpl : (backTo pos (starEach es X.env)).any (·.1) = false := by rfl) : PE X (.Call fe (e :: es) [] pos) (tCallM X T E tf t) := by
  refine ⟨fun pins s sg H Q I h => Call_ (thn (hf.run pins s sg H _ I h) fun u s1 ⟨y, H1, I1, ry, a, ey, q⟩ => ?_) hev⟩
  subst ey
  obtain rfl : u = Value.ref a := ry
  refine StX.callO_with (thn (ha.run pos pins s1 sg H1 _ I1 q) fun us s2 ⟨vs, H2, I2, r, C, sp, hc, hi, q2⟩ => ?_) hse hpl
  obtain ⟨g, c, F⟩ := hT C sp hc
  obtain ⟨ox, od, J, hd⟩ := StX.insC_at I2 hi
  exact ⟨⟨C, ox, od, J, hd⟩, StX.run_callO c F hr hx I2 hi r q2⟩

/-! o.f(e, ..), f an attribute of the instance o that holds such an instance -/
def tCallF (X : Cx) (m : Str) (T : Addr → Sp → Prop) (E : XK) (ta : TE) (t : TA) : TE := fun sg H Q => ta sg H fun x H1 => ∃ a C0 dx fs r, x = V.ref a ∧ H1 a = some (.ins C0 dx fs) ∧ Cls X.K C0 ∧ NoAttr X.K C0 m ∧ fs.lookup m = some (V.ref r) ∧
  t sg H1 fun vs H2 => ∃ C sp, T C sp ∧ StX.InsC X H2 r C ∧ sp (V.ref r :: vs) H2 Q E
theorem pe_callF {T : Addr → Sp → Prop} (hT : ∀ C sp, T C sp → ∃ g, StX.CallO X.K C g ∧ FnR X.prog X.w X.K X.mg X.base CX k g sp) (ho : PE X o ta) (hr : Room k X.A) (hx : Passes CX X E) (ha : PA X (e :: es) t)
    (hse : starEach (e :: es) X.env = (false, eval e X.env) :: starEach es X.env := by rfl) (hpl : (backTo pos (starEach es X.env)).any (·.1) = false := by rfl)
    (hev : eval (.Call (.Attribute o m apos) (e :: es) [] pos) X.env = (do
      let ov ← eval o X.env
      standAt apos.atName
      let (f, first) ← holding [ov] (getMethod ov m pl)
      callWith pos f first (backTo pos (starEach (e :: es) X.env)) (backToKw pos (keywordEach [] X.env))) := by rfl) :
    PE X (.Call (.Attribute o m apos) (e :: es) [] pos) (tCallF X m T E ta t) := by
  refine ⟨fun pins s sg H Q I h => PySem.W.methodCall_KW (pl := pl) (thn (ho.run pins s sg H _ I h) fun u s1 ⟨x, H1, I1, rx, a, C0, dx, fs, r, ex, ea, c0, n0, l0, q⟩ => ?_) hev⟩
  subst ex
  obtain rfl : u = Value.ref a := rx
  obtain ⟨_, O, _⟩ := ins_get I1.hok ea
  obtain ⟨_, J, _⟩ := O.look
  have pg := PySem.W.plainGet_of (c0.get m)
  refine PySem.W.method_usual (r := none) I1.kIn J pg.1 pg.2 n0 rfl (getattr_ok I1 ea c0 n0 l0 fun u2 s2 I2 r2 => ?_)
  obtain rfl : u2 = Value.ref r := r2
  refine StX.callO_with (thn (ha.run pos pins s2 sg H1 _ I2 q) fun us s3 ⟨vs, H2, I3, rv, C, sp, hc, hi, q2⟩ => ?_) hse hpl
  obtain ⟨g, c, F⟩ := hT C sp hc
  obtain ⟨ox, od, J2, hd⟩ := StX.insC_at I3 hi
  exact ⟨⟨C, ox, od, J2, hd⟩, StX.run_callO c F hr hx I3 hi rv q2⟩

/-! cls(e, ..), a local name that holds the class at C -/
def tMakeV (i : Nat) (C : Addr) (sp : Sp) (E : XK) (t : TA) : TE := fun sg H Q => sg[i]? = some (some (V.ref C)) ∧ StX.tMakeR C sp E t sg H Q
theorem pe_makeV {i : Nat} (M : Mk X.K C f) (F : FnR X.prog X.w X.K X.mg X.base CX k f sp) (hr : Room (k + 1) X.A) (hN : X.N[i]? = some x) (hv : Vis X.env.scope x) (hx : Passes CX X E) (ha : PA X (e :: es) t)
    (hd : (x == ("__debug__" : Str)) = false := by decide) (hcd : (x == ("__classdict__" : Str)) = false := by decide)
    (hse : starEach (e :: es) X.env = (false, eval e X.env) :: starEach es X.env := by rfl) (hpl : (backTo pos (starEach es X.env)).any (·.1) = false := by rfl) : PE X (.Call (.Name x np) (e :: es) [] pos) (tMakeV i C sp E t) := by
  refine ⟨fun pins s sg H Q I h => ?_⟩
  obtain ⟨h0, h1⟩ := h
  refine wpAny_Call_Name_kw (thn ((pe_var (pos := np) hN hv hd hcd).run pins s sg H (fun v H1 => v = V.ref C ∧ H1 = H) I ⟨_, h0, rfl, rfl⟩) fun u s1 ⟨v, H1, I1, r1, ev, eH⟩ => ?_)
  subst ev eH
  obtain rfl : u = Value.ref C := r1
  refine PySem.W.callWith_K (h₀ := X.base) I1.ok.mod.kin M.kp (thn (ha.run pos pins s1 sg H1 _ I1 h1) fun us s2 ⟨vs, H2, I2, r, q⟩ => ⟨I2.kIn, ?_⟩) hse hpl
  exact StX.run_makeR M F hr hx I2 r q

/-! C.m(e, ..), m a staticmethod -/
structure CSta (K : PySem.W.Frag) (C : Addr) (mc : Value) (m : Str) (p g : Addr) : Prop where
  at_ : PySem.W.findCls K (.ref C) mc m = some (.get (.builtin "staticmethod.__get__") (.ref p) .none (.ref C))
  rc : ∃ rest, PySem.W.recIn K p "staticmethod" = some (.ref g :: rest)
  kp : PySem.W.keepIn K (.ref g) = true
def tSMeth (C : Addr) (sp : Sp) (E : XK) (ta : TE) (t : TA) : TE := fun sg H Q => ta sg H fun x H1 => x = V.ref C ∧ t sg H1 fun vs H2 => sp vs H2 Q E
theorem pe_smeth (ho : PE X o ta) (rd : ClX.CRead X.K C mc) (c : CSta X.K C mc m p g) (F : FnR X.prog X.w X.K X.mg X.base CX k g sp) (hr : Room k X.A) (hx : Passes CX X E) (ha : PA X (e :: es) t)
    (hse : starEach (e :: es) X.env = (false, eval e X.env) :: starEach es X.env := by rfl) (hpl : (backTo pos (starEach es X.env)).any (·.1) = false := by rfl)
    (hev : eval (.Call (.Attribute o m apos) (e :: es) [] pos) X.env = (do
      let ov ← eval o X.env
      standAt apos.atName
      let (f, first) ← holding [ov] (getMethod ov m pl)
      callWith pos f first (backTo pos (starEach (e :: es) X.env)) (backToKw pos (keywordEach [] X.env))) := by rfl) :
    PE X (.Call (.Attribute o m apos) (e :: es) [] pos) (tSMeth C sp E ta t) := by
  refine ⟨fun pins s sg H Q I h => PySem.W.methodCall_KW (pl := pl) (thn (ho.run pins s sg H _ I h) fun u s1 ⟨x, H1, I1, rx, ex, q⟩ => ?_) hev⟩
  subst ex
  obtain rfl : u = Value.ref C := rx
  obtain ⟨rest, hp⟩ := c.rc
  refine PySem.W.method_cls I1.kIn rd.ga (PySem.W.cls_bind I1.kIn rd.rd c.at_ (wpAny_call (PySem.W.sm_get (s := { s1 with toks := s1.toks + 1 }) I1.kIn hp (PySem.W.handed_on rfl ?_))))
  have I2 := I1.tok (s1.toks + 1)
  refine PySem.W.callWith_K (first := []) (h₀ := X.base) I2.ok.mod.kin c.kp (thn (ha.run pos pins _ sg H1 _ I2 q) fun us s2 ⟨vs, H2, I3, r, q2⟩ => ⟨I3.kIn, ?_⟩) hse hpl
  exact run_back F hr hx I3 r q2
end

/-! ### calls by keywords, by a promise over both lists of values -/
abbrev SpW := List V → List V → Hp → VK → XK → Prop
def FnW (P : Program) (w : World) (K : PySem.W.Frag) (mg : Str → Option Value) (base : Heap) (CX : CXT) (k : Nat) (f : Addr) (ks : List Str) (sp : SpW) : Prop :=
  ∀ (A : Around) (outer : List Env) (s : Shared) (H : Hp) (us ws : List Value) (vs zs : List V) (Q : VK) (E : XK), Room k A → Env0 P w K mg base A outer s H → Vals vs us → Vals zs ws → sp vs zs H Q E →
    codeAny (model P w) A (.call (.ref f) ⟨us, ks.zip ws⟩) (CR CX outer P w H s Q E) s
theorem FnW.of {P : Program} {w : World} {K : PySem.W.Frag} {mg : Str → Option Value} {base : Heap} {CX : CXT} {k n : Nat} {f : Addr} {fd : FuncData} {ps ks : List Str} {sp : Sp} {g : List Value → List Value → List Value} {gV : List V → List V → List V}
    (F : FnOk P w K mg base CX k f fd ps sp) (hb : KBn K fd ps n ks g gV) : FnW P w K mg base CX k f ks (fun vs zs H Q E => vs.length = n ∧ zs.length = ks.length ∧ sp (gV vs zs) H Q E) := by
  intro A outer s H us ws vs zs Q E hr e0 r rz ⟨l1, l2, h⟩
  exact F.run A outer s H ⟨us, ks.zip ws⟩ (g us ws) (gV vs zs) Q E hr e0 (hb.to s us ws (e0.mod.kin.keeps fun b o z => (e0.bs b o z).1) (r.length.symm.trans l1) (rz.length.symm.trans l2)) (hb.rel r rz) h
section
variable {X : Cx} {CX : CXT} {k : Nat} {C p g : Addr} {mc : Value} {sp : SpW} {E : XK} {o e : Expr} {es : List Expr} {kws : List Keyword} {ks : List Str} {m : Str} {pos apos : Pos} {ta : TE} {t tk : TA} {pl : Sem Bool}
theorem run_cmW {pins : List (Addr × Obj)} {sg : L2.St} {H : Hp} {s : Shared} {q : Addr} {Q : VK} {us ws : List Value} {vs zs : List V} (F : FnW X.prog X.w X.K X.mg X.base CX k g ks sp) (hr : Room k X.A) (hx : Passes CX X E)
    (I : Inv X ((q, PySem.W.methodObj (.ref g) (.ref C)) :: pins) sg H s) (r : Vals vs us) (rz : Vals zs ws) (h : sp (V.ref C :: vs) zs H Q E) : wpAny (model X.prog X.w) X.A (call (.ref q) us (ks.zip ws)) (EP X pins sg Q) X.xe s := by
  refine wpAny_call (PySem.W.method_call (ClX.pin_at I) (codeAny_mono (F X.A X.stack s H (.ref C :: us) ws (V.ref C :: vs) zs Q E hr I.env0 (.cons rfl r) rz h) fun r s' hq => ?_))
  cases r with
  | error z => exact hx _ sg H s z s' I hq
  | ok fl => cases fl <;> first | exact ClX.unpinE (I.after hq) | exact False.elim hq
/-- C.m(k = v, ..), m a classmethod -/
def tCMethW (C : Addr) (sp : SpW) (E : XK) (ta : TE) (t tk : TA) : TE := fun sg H Q => ta sg H fun x H1 => x = V.ref C ∧ t sg H1 fun vs H2 => tk sg H2 fun zs H3 => sp (V.ref C :: vs) zs H3 Q E
theorem pe_cmethW0 (ho : PE X o ta) (rd : ClX.CRead X.K C mc) (c : ClX.CMet X.K C mc m p g) (F : FnW X.prog X.w X.K X.mg X.base CX k g ks sp) (hr : Room k X.A) (hx : Passes CX X E) (hkw : PK X kws tk)
    (hall : (backToKw pos (keywordEach kws X.env)).all (·.1.isSome) = true := by rfl) (hks : (backToKw pos (keywordEach kws X.env)).filterMap (·.1) = ks := by rfl)
    (hpl : ((backTo pos (starEach [] X.env)).any (·.1) || (backToKw pos (keywordEach kws X.env)).any (·.1.isNone)) = false := by rfl)
    (hev : eval (.Call (.Attribute o m apos) [] kws pos) X.env = (do
      let ov ← eval o X.env
      standAt apos.atName
      let (f, first) ← holding [ov] (getMethod ov m pl)
      callWith pos f first (backTo pos (starEach [] X.env)) (backToKw pos (keywordEach kws X.env))) := by rfl) :
    PE X (.Call (.Attribute o m apos) [] kws pos) (tCMethW C sp E ta tNil tk) := by
  refine ⟨fun pins s sg H Q I h => PySem.W.methodCall_KW (pl := pl) (thn (ho.run pins s sg H _ I h) fun u s1 ⟨x, H1, I1, rx, ex, q⟩ => ?_) hev⟩
  subst ex
  obtain rfl : u = Value.ref C := rx
  refine ClX.getmethcm_ok I1 rd c fun s2 I2 => ?_
  refine PySem.W.callWith_of hpl (PySem.W.keeps_M (K := X.K) (self := .ref C) c.fi) (evalArgs_kw2_nil hall ?_)
  refine thn (hkw.run pos _ s2 sg H1 _ I2 q) fun ws s3 ⟨zs, H2, I3, rz, q2⟩ => ⟨⟨ClX.pin_at I3, I3.kIn⟩, ?_⟩
  rw [hks]
  exact run_cmW (us := []) F hr hx I3 .nil rz q2
theorem pe_cmethW (ho : PE X o ta) (rd : ClX.CRead X.K C mc) (c : ClX.CMet X.K C mc m p g) (F : FnW X.prog X.w X.K X.mg X.base CX k g ks sp) (hr : Room k X.A) (hx : Passes CX X E) (ha : PA X (e :: es) t) (hkw : PK X kws tk)
    (hall : (backToKw pos (keywordEach kws X.env)).all (·.1.isSome) = true := by rfl) (hks : (backToKw pos (keywordEach kws X.env)).filterMap (·.1) = ks := by rfl)
    (hse : starEach (e :: es) X.env = (false, eval e X.env) :: starEach es X.env := by rfl)
    (hpl : ((backTo pos (starEach (e :: es) X.env)).any (·.1) || (backToKw pos (keywordEach kws X.env)).any (·.1.isNone)) = false := by rfl)
    (hev : eval (.Call (.Attribute o m apos) (e :: es) kws pos) X.env = (do
      let ov ← eval o X.env
      standAt apos.atName
      let (f, first) ← holding [ov] (getMethod ov m pl)
      callWith pos f first (backTo pos (starEach (e :: es) X.env)) (backToKw pos (keywordEach kws X.env))) := by rfl) :
    PE X (.Call (.Attribute o m apos) (e :: es) kws pos) (tCMethW C sp E ta t tk) := by
  refine ⟨fun pins s sg H Q I h => PySem.W.methodCall_KW (pl := pl) (thn (ho.run pins s sg H _ I h) fun u s1 ⟨x, H1, I1, rx, ex, q⟩ => ?_) hev⟩
  subst ex
  obtain rfl : u = Value.ref C := rx
  refine ClX.getmethcm_ok I1 rd c fun s2 I2 => ?_
  refine PySem.W.callWith_of hpl (PySem.W.keeps_M (K := X.K) (self := .ref C) c.fi) (evalArgs_kw2 hall (thn (ha.run pos _ s2 sg H1 _ I2 q) fun us s3 ⟨vs, H2, I3, rv, q2⟩ => ?_) hse)
  refine thn (hkw.run pos _ s3 sg H2 _ I3 q2) fun ws s4 ⟨zs, H3, I4, rz, q3⟩ => ⟨⟨ClX.pin_at I4, I4.kIn⟩, ?_⟩
  rw [hks]
  exact run_cmW F hr hx I4 rv rz q3
end
end Wb

set_option Elab.async false
set_option linter.all false
set_option maxRecDepth 100000
set_option maxHeartbeats 4000000
namespace Wb
open PySem PySem.Spec PyProof.Rows L2
/-! ### rules of our own: repr of a list of ints, sorted of a set, a display by a tuple -/
theorem dp_ints {K : PySem.W.Frag} {H : Hp} : ∀ ns : List Int, DpAll K H (ns.map V.int) (ns.map PyData.int)
  | [] => .nil
  | n :: ns => .cons (.int n) (dp_ints ns)
theorem hasDict_ints : ∀ ns : List Int, PyData.hasDictAll (ns.map PyData.int) = false
  | [] => by simp only [List.map_nil, PyData.hasDictAll]
  | n :: ns => by simp only [List.map_cons, PyData.hasDictAll, PyData.hasDict, hasDict_ints ns, Bool.or_self]
theorem depth_ints : ∀ ns : List Int, PyData.depthAll (ns.map PyData.int) = 0
  | [] => by simp only [List.map_nil, PyData.depthAll]
  | n :: ns => by simp only [List.map_cons, PyData.depthAll, PyData.depth, depth_ints ns, Nat.max_self]
theorem short_ints : ∀ ns : List Int, (∀ n ∈ ns, 0 ≤ n ∧ n < 1000000) → ((PyData.shownAll (ns.map PyData.int)).map (·.length)).sum ≤ 13 * ns.length ∧ (PyData.shownAll (ns.map PyData.int)).length = ns.length
  | [], _ => by simp only [List.map_nil, PyData.shownAll]; exact ⟨Nat.le_refl _, rfl⟩
  | n :: ns, h => by
    obtain ⟨h1, h2⟩ := short_ints ns fun k hk => h k (List.mem_cons_of_mem _ hk)
    have h3 : (PyData.shown (.int n)).length ≤ 13 := PyData.shown_int_le (by
      have := h n List.mem_cons_self
      omega)
    simp only [List.map_cons, PyData.shownAll, List.sum_cons, List.length_cons]
    omega
/-- the text of a list of ints -/
def lt (ns : List Int) : Str := PyData.shown (.list (ns.map PyData.int))
def it (n : Int) : Str := toString n
theorem lt_len (ns : List Int) (hz : ns.length ≤ 1000) (h : ∀ n ∈ ns, 0 ≤ n ∧ n < 1000000) : (lt ns).length ≤ sizeLine := by
  have e : lt ns = listText (PyData.shownAll (ns.map PyData.int)) := by unfold lt; simp only [PyData.shown]
  obtain ⟨h1, h2⟩ := short_ints ns h
  have h3 := listText_len_le (PyData.shownAll (ns.map PyData.int))
  rw [e, sizeLine_eq]
  omega
section
variable {X : Cx}
theorem cr_repr (hg : X.A.guards = some []) (hu : X.A.units + 64 < cLine) : CallR X (.builtin "repr") (fun xs H Q => ∃ a ns, xs = [V.ref a] ∧ SqL X.K H a (ns.map V.int) ∧ (∀ n ∈ ns, 0 ≤ n ∧ n < 1000000) ∧ ns.length ≤ 1000 ∧ Q (.str (lt ns)) H) := by
  intro pins s sg H xs us Q I r h
  obtain ⟨a, ns, rfl, hs, hb, hz, q⟩ := h
  rw [Vals.ref1 r]
  obtain ⟨as, rd⟩ := Dp.reads I (.list (ns.map PyData.int)) (.ref a) (.ref a) (.lst hs (dp_ints ns)) rfl
  have sh : (PyData.list (ns.map PyData.int)).showable = true := by
    simp only [PyData.showable]
    refine PyData.showableAll_ints ns fun n hn => ?_
    have := hb n hn
    by_cases z : n.natAbs = 0
    · rw [z]; decide
    · exact (Nat.log2_lt z).mpr (Nat.lt_of_lt_of_le (show n.natAbs < 2 ^ 20 by omega) (Nat.pow_le_pow_right (by decide) (by decide)))
  refine repr_of_reads' rd sh (PyData.noDict_hsm (by simp only [PyData.hasDict]; exact hasDict_ints ns)) hg (by simp only [PyData.depth, depth_ints]; omega) (fun _ _ e => e) (fun h' u tk hk => ⟨.str (lt ns), H, I.kept hk, ⟨_, rfl⟩, q⟩) (lt_len ns hz hb)
/-! sorted(s), s a set of ints of any size -/
theorem sorted_any {P : Program} {w : World} {A : Around} {E : Value → Shared → Prop} {s : Shared} {a : Addr} {S : Int → Bool} {n : Nat} {Q : Value → Shared → Prop} (R : SetR w s.heap a S n) (hh : A.handled = none)
    (hQ : ∀ s' p (out : List Value) (c : Nat) (ns : List Int), (∀ b o, s.heap.get? b = some o → s'.heap.get? b = some o) → s'.gens = s.gens → s'.os = s.os → s.heap.objs.size ≤ p → s'.heap.get? p = some (seqObj "list" out.toArray c) →
      IntsAre out ns → ns.Pairwise (· < ·) → (∀ k, k ∈ ns ↔ S k = true) → ns.length = n → n < scanBound → Q (.ref p) s') : wpAny (model P w) A (call (.builtin "sorted") [.ref a]) Q E s := by
  obtain ⟨o, es, ep, t, ho, hex, hd, g, nd, hm, hb, hf, hn, hr, hl⟩ := R
  refine Calls.call_function_entry kind_sorted plain_sorted entry_sorted (args_sorted1 _) ?_
  unfold Builtin.«sorted»
  refine wpAny_bind (m := checkCount "sorted" 1 1 _) (wpAny_pure ?_)
  refine wpAny_bind (collect_set (A := A.in1) hh ⟨o, ho, hex.1, hd⟩ hf hb hr hl fun s1 vs k1 hz g1 o1 pm => ?_)
  have len1 : vs.length = es.size := by rw [pm.length_eq, List.length_map, Array.length_toList]
  have small : vs.length ≤ sizeLine := by rw [len1]; exact fits_of_scanBound hb
  have hI : IntsAre vs (vs.map Builtin.Re.reRawOf) := ints_of vs fun v hv => by
    obtain ⟨e, he, q⟩ := List.mem_map.mp (pm.mem_iff.mp hv)
    obtain ⟨k, tk, h1, _⟩ := g e he
    exact ⟨k, tk, q ▸ h1⟩
  have pk : (vs.map Builtin.Re.reRawOf).Perm (es.toList.map keyOf) := by
    have q := pm.map Builtin.Re.reRawOf
    rwa [List.map_map] at q
  refine wpAny_bind (wpAny_newList ?_ small)
  have at0 : (s1.heap.push (seqObj "list" vs.toArray 0)).get? s1.heap.objs.size = some (seqObj "list" vs.toArray 0) := Heap.get?_push_size _ rfl
  refine wpAny_bind (wpAny_holding (wpAny_call_entry slot_list_sort ⟨_, at0, rfl⟩ entry_list_sort (SrtO.list_sort_ord SrtO.swo_int at0 small (fun h2 => SrtO.ints_sortable hI h2) fun out hs hb' => ⟨_, rfl, ?_⟩) (args_list_sort _)))
  obtain ⟨a1, a2, a3⟩ := SrtO.ints_out hI hs hb'
  obtain ⟨c, hc⟩ := sortedHeap_at (vs := vs) (out := out.toArray) at0
  have pn := a2.trans pk
  refine wpAny_pure ⟨_, rfl, hQ _ s1.heap.objs.size out c _ (fun b u e => ?_) g1 o1 hz hc a1 (lt_of_le_nodup _ a3 (pn.nodup_iff.mpr nd)) (fun k => by rw [pn.mem_iff, ← hm k]) ?_ (by omega)⟩
  · have q := k1 b u e
    have below := Heap.lt_size q
    show (sortedHeap (s1.heap.push (seqObj "list" vs.toArray 0)) s1.heap.objs.size vs out.toArray).get? b = some u
    rw [sortedHeap_old (Nat.ne_of_lt below) (by rw [size_push']; exact Nat.lt_succ_of_lt below)]
    exact Heap.get?_push_of_some _ q
  · rw [pn.length_eq, List.length_map, Array.length_toList]; exact hn
theorem cr_sortedAny (hc : X.calm = true) : CallR X (.builtin "sorted") (fun vs H Q => ∃ (a : Addr) (S : Int → Bool) (n : Nat), vs = [V.ref a] ∧ H a = some (SetO X.w a S n) ∧
    ∀ (ns : List Int) (p : Addr), ns.Pairwise (· < ·) → (∀ k : Int, k ∈ ns ↔ S k = true) → ns.length = n → H p = none → Q (.ref p) (upd H p (.lst (ns.map V.int)))) := by
  intro pins s sg H vs us Q I r h
  obtain ⟨a, S, n, rfl, ha, q⟩ := h
  rw [Vals.ref1 r]
  refine sorted_any (setO_get I ha) (I.ok.hd hc) fun s' p out c ns k g o hp hat hi hs hm hl hn => ?_
  have hlen : (ns.map V.int).length ≤ sizeLine := by rw [List.length_map, hl]; exact fits_of_scanBound hn
  have free := I.hok.fresh hp
  refine ⟨.ref p, _, I.call' (ch := []) o (Un.laid k hp free) (I.hok.laid (o := .lst (ns.map V.int)) k hp ⟨hlen, out, c, vals_of_ints hi, hat⟩) (by rw [g]; exact I.bare) (fun _ z => nomatch z), rfl, q ns p hs hm hl free⟩

/-! {k: v}, k a tuple of ints and texts -/
def tDisp1 (tk tv : TE) : TE := fun sg H Q => ∀ p, H p = none → tk sg (upd H p (.dT [])) fun x H1 => tv sg H1 fun y H2 => ∃ (b : Addr) (ks : List Key), x = V.ref b ∧ H2 b = some (.tup (ks.map kV)) ∧ H2 p = some (.dT []) ∧ Q (.ref p) (upd H2 p (.dT [(ks, y)]))
theorem pe_disp1 {k v : Expr} {tk tv : TE} {pos : Pos} (hu : X.A.units + 1 < cLine) (hk : PE X k tk) (hv : PE X v tv) : PE X (.Dict [some k] [v] pos) (tDisp1 tk tv) := by
  refine ⟨fun pins s sg H Q I h => ?_⟩
  have hn := I.hok.fresh (Nat.le_refl s.heap.objs.size)
  have I1 := I.laid (a := s.heap.objs.size) (o := .dT []) (h' := s.heap.push { cls := .type "dict", data := .dict #[] }) (t' := s.toks) (fun _ _ q => Heap.get?_push_of_some _ q) (Nat.le_refl _) (dt_empty s.heap I.big)
  have room : (tupleKind (mixKind X.prog X.w)).room X.A := Nat.lt_of_succ_lt hu
  have len1 : (pairTrees [some k] [v] X.env pos).length ≤ 15 := Nat.succ_le_succ (Nat.zero_le _)
  rw [arm_eval_Dict, zip_pairTrees [some k] [v] X.env pos rfl rfl, dictDisplay_pairs (pairTrees [some k] [v] X.env pos) (fun z => nomatch z) (by omega)]
  refine wpAny_bind (wpAny_standAt (wpAny_bind (wpAny_subDictH (knd := tupleKind (mixKind X.prog X.w)) room len1 (pairTrees_cons_walk ?_))))
  refine thn (hk.run pins _ sg _ _ I1 (h _ hn)) fun kv s1 ⟨x, H1, I2, rx, q1⟩ => thn (hv.run pins s1 sg H1 _ I2 q1) fun vv s2 ⟨y, H2, I3, ry, b, ks, ex, hb, hp, q⟩ => pairTrees_nil_walk ?_
  subst ex
  obtain rfl : kv = Value.ref b := rx
  obtain ⟨z, hd, xs, rel, dd⟩ := dt_of I3.hok hp
  cases rel
  refine ⟨[(ks, b, vv)], ⟨rfl, rfl, key_of I3.hok hb, True.intro⟩, dd, fun h' tk dk sb => wpAny_pure ⟨.ref s.heap.objs.size, _, ?_, rfl, q⟩⟩
  obtain ⟨u, es, ep, hu2, h2, h3, h4, _, h5⟩ := dk
  refine d_write I3 (by rw [hp]; exact True.intro) sb ⟨u, hu2⟩ ⟨Nat.le_trans (Nat.le_refl 1) (by rw [sizeLine_eq]; decide), hd, [(ks, b, vv)], .cons ⟨rfl, ?_, ry⟩ .nil, u, es, ep, hu2, h2, h3, h4, h5⟩
  rw [upd_ne (ne_of hb hp fun z => nomatch z)]
  exact hb
end
end Wb

set_option Elab.async false
set_option linter.all false
set_option maxRecDepth 100000
set_option maxHeartbeats 4000000
namespace Wb
open PySem PySem.Spec PyProof.Rows L2
/-! ### a set comprehension with two clauses, no tests, ints -/
abbrev Sc2 (elt t0 i0 t1 i1 : Expr) (sc : Scope) (pos : Pos) : Expr := .SetComp elt [⟨t0, i0, [], 0⟩, ⟨t1, i1, [], 0⟩] sc pos
theorem turn_outer (elt t0 i0 t1 i1 : Expr) (sc : Scope) (pos : Pos) (it acc : Value) (env : Env) :
    compTurn (Sc2 elt t0 i0 t1 i1 sc pos) 0 it acc env = (do
      standAt i0.pos
      match ← pyNext it with
      | none => pure (.done .next)
      | some v =>
        letOwnedTupleGo t0 it v
        assign t0 env v
        let mut ok := true
        for c in ([] : List Expr) do
          if ok then ok ← isTrue c env (eval c env)
        if ok then
          let x ← eval i1 env
          standAt i1.pos
          let x ← foldedSetIterable i1 env x
          let _ ← runOwn (.compStart (Sc2 elt t0 i0 t1 i1 sc pos) 1 (← holding [x] (pyIter x)) acc env) env
        again (.compLoop (Sc2 elt t0 i0 t1 i1 sc pos) 0 it acc env)) := by rfl
theorem turn_inner (elt t0 i0 t1 i1 : Expr) (sc : Scope) (pos : Pos) (it acc : Value) (env : Env) :
    compTurn (Sc2 elt t0 i0 t1 i1 sc pos) 1 it acc env = (do
      standAt i1.pos
      match ← pyNext it with
      | none => pure (.done .next)
      | some v =>
        letOwnedTupleGo t1 it v
        assign t1 env v
        let mut ok := true
        for c in ([] : List Expr) do
          if ok then ok ← isTrue c env (eval c env)
        if ok then
          (do let v ← eval elt env; standAt elt.pos; let _ ← call (.builtin "set.add") [acc, v])
        again (.compLoop (Sc2 elt t0 i0 t1 i1 sc pos) 1 it acc env)) := by rfl
section
variable {prog : Program} {w : World} {A : Around} {R : Result → Shared → Prop} {s : Shared} {elt t0 i0 t1 i1 : Expr} {sc : Scope} {pos : Pos} {it acc : Value} {env : Env}
abbrev Er (prog : Program) (w : World) (A : Around) (env : Env) (R : Result → Shared → Prop) : Value → Shared → Prop := notedBy (model prog w) A env fun e s' => R (.error e) s'
theorem loop_outer (hs : ∀ x, foldedSetIterable i1 env x = pure x) (I : Nat → Shared → Prop)
    (turn : ∀ n s, I n s → wpAny (model prog w) A (pyNext it) (fun r s1 => match r with
      | none => R (.ok .next) s1
      | some v => wpAny (model prog w) A (letOwnedTupleGo t0 it v) (fun _ s2 => wpAny (model prog w) A (assign t0 env v) (fun _ s3 => wpAny (model prog w) A (eval i1 env) (fun x s4 => wpAny (model prog w) A (pyIter x) (fun it1 s5 =>
          codeAny (model prog w) A (.compStart (Sc2 elt t0 i0 t1 i1 sc pos) 1 it1 acc env) (fun r s' => match r with
            | .ok _ => ∃ m, m < n ∧ I m s'
            | .error _ => False) s5) (Er prog w A env R) s4) (Er prog w A env R) s3) (Er prog w A env R) s2) (Er prog w A env R) s1) (Er prog w A env R) s)
    (n : Nat) (h : I n s) : codeAny (model prog w) A (.compLoop (Sc2 elt t0 i0 t1 i1 sc pos) 0 it acc env) R s := by
  refine codeAny_loop rfl I (fun n s hI => ?_) n h
  show wpAny _ A ((compTurn (Sc2 elt t0 i0 t1 i1 sc pos) 0 it acc env).onRaise (fun x => do noteFrame x env; theTreesLotGoes x)) _ _ s
  refine wpAny_noted ?_
  rw [turn_outer]
  refine wpAny_bind (wpAny_standAt (wpAny_bind (wpAny_mono (turn n s hI) (fun r s1 h1 => ?_) fun _ _ z => z)))
  cases r with
  | none => exact wpAny_pure h1
  | some v =>
    refine wpAny_bind (wpAny_mono h1 (fun _ s2 h2 => wpAny_bind (wpAny_mono h2 (fun _ s3 h3 => ?_) fun _ _ z => z)) fun _ _ z => z)
    refine wpAny_bind (wpAny_tests_nil ?_)
    refine wpAny_bind (wpAny_mono h3 (fun x s4 h4 => wpAny_bind (wpAny_standAt (wpAny_bind (wpAny_of_eq (hs x) (wpAny_bind (wpAny_holding (wpAny_mono h4 (fun it1 s5 h5 => ?_) fun _ _ z => z))))))) fun _ _ z => z)
    refine wpAny_bind (wpAny_runOwn ?_)
    rw [Around.mark_none]
    refine codeAny_mono h5 fun r s' hr => ?_
    cases r with
    | error e => exact hr.elim
    | ok f => first | exact wpAny_pure ⟨rfl, hr⟩ | exact wpAny_bind (wpAny_pure (wpAny_pure ⟨rfl, hr⟩))
theorem loop_inner (I : Nat → Shared → Prop)
    (turn : ∀ n s, I n s → wpAny (model prog w) A (pyNext it) (fun r s1 => match r with
      | none => R (.ok .next) s1
      | some v => wpAny (model prog w) A (letOwnedTupleGo t1 it v) (fun _ s2 => wpAny (model prog w) A (assign t1 env v) (fun _ s3 => wpAny (model prog w) A (eval elt env) (fun x s4 =>
          wpAny (model prog w) A (call (.builtin "set.add") [acc, x]) (fun _ s5 => ∃ m, m < n ∧ I m s5) (Er prog w A env R) s4) (Er prog w A env R) s3) (Er prog w A env R) s2) (Er prog w A env R) s1) (Er prog w A env R) s)
    (n : Nat) (h : I n s) : codeAny (model prog w) A (.compLoop (Sc2 elt t0 i0 t1 i1 sc pos) 1 it acc env) R s := by
  refine codeAny_loop rfl I (fun n s hI => ?_) n h
  show wpAny _ A ((compTurn (Sc2 elt t0 i0 t1 i1 sc pos) 1 it acc env).onRaise (fun x => do noteFrame x env; theTreesLotGoes x)) _ _ s
  refine wpAny_noted ?_
  rw [turn_inner]
  refine wpAny_bind (wpAny_standAt (wpAny_bind (wpAny_mono (turn n s hI) (fun r s1 h1 => ?_) fun _ _ z => z)))
  cases r with
  | none => exact wpAny_pure h1
  | some v =>
    refine wpAny_bind (wpAny_mono h1 (fun _ s2 h2 => wpAny_bind (wpAny_mono h2 (fun _ s3 h3 => ?_) fun _ _ z => z)) fun _ _ z => z)
    refine wpAny_bind (wpAny_tests_nil ?_)
    exact wpAny_bind (wpAny_bind (wpAny_mono h3 (fun x s4 h4 => wpAny_bind (wpAny_standAt (wpAny_bind (wpAny_mono h4 (fun _ s5 h5 => wpAny_pure (wpAny_pure ⟨rfl, h5⟩)) fun _ _ z => z)))) fun _ _ z => z))
theorem start_inner (h0 : codeAny (model prog w) A (.compLoop (Sc2 elt t0 i0 t1 i1 sc pos) 1 it acc env) R s)
    (h : wpAny (model prog w) A (pyIter it) (fun it' s' => codeAny (model prog w) A (.compLoop (Sc2 elt t0 i0 t1 i1 sc pos) 1 it' acc env) R s') (notedBy (model prog w) A env fun x s' => R (.error x) s') s) :
    codeAny (model prog w) A (.compStart (Sc2 elt t0 i0 t1 i1 sc pos) 1 it acc env) R s := by
  refine codeAny_of_tree ?_
  show wpAny _ _ ((compStart (Sc2 elt t0 i0 t1 i1 sc pos) 1 it acc env).onRaise (fun x => do noteFrame x env; standAt theWindowsPlace)) _ _ s
  refine wpAny_notedAt ?_
  unfold compStart
  show wpAny _ _ (ask >>= _) _ _ s
  refine wpAny_bind (wpAny_askSetting (wpAny_ite ?_))
  have last : wpAny (model prog w) A (standAt i1.pos >>= fun _ => pyIter it >>= fun it' => again (.compLoop (Sc2 elt t0 i0 t1 i1 sc pos) 1 it' acc env)) (fun fin s' => match fin with | .done f => R (.ok f) s' | .again c' => c'.quiet = true ∧ codeAny (model prog w) A c' R s') (notedBy (model prog w) A env fun x s' => R (.error x) s') s :=
    wpAny_bind (wpAny_standAt (wpAny_bind (wpAny_mono h (fun it' s' h' => wpAny_pure (And.intro rfl h')) fun _ _ x => x)))
  split
  · first | exact wpAny_bind (wpAny_pure (wpAny_pure (And.intro rfl h0))) | exact wpAny_pure (And.intro rfl h0)
  · first | exact wpAny_bind (wpAny_rule last) | (refine wpAny_bind (wpAny_rule ?_); exact last)
end
section
variable {X : Cx}
/-- {elt for tg in iter for tg1 in iter1}: D the new set of ints; within a turn of the outer walk the inner one has a word of its own, from which Nx is reached -/
def tSc2 (w : World) (wi : TI) (g : TG) (wi1 : TI) (g1 : TG) (te : TE) (vs vs1 : List Nat) : TE := fun sg H Q => wi sg H fun J H1 => ∀ D, H1 D = none → ∃ W : Nat → Nat → Hp → Prop, (∃ m, W 0 m (upd H1 D (SetO w D (fun _ => false) 0))) ∧
  ∀ i m H, W i m H → (J.stop i H ∧ Q (.ref D) H) ∨ (J.go i H ∧ ∃ Nx : Hp → Prop, (∀ H', Nx H' → ∃ m', m' < m ∧ W (i + 1) m' H') ∧ ∀ x H', J.yld i H x H' → g x (wipe sg vs) H' fun s2 H2 => wipe s2 vs = wipe sg vs ∧
    wi1 s2 H2 fun J1 H4 => ∃ W1 : Nat → Nat → Hp → Prop, (∃ m, W1 0 m H4) ∧ ∀ j k H, W1 j k H → (J1.stop j H ∧ Nx H) ∨ (J1.go j H ∧ ∃ Nx1 : Hp → Prop, (∀ H', Nx1 H' → ∃ k', k' < k ∧ W1 (j + 1) k' H') ∧
      ∀ x H', J1.yld j H x H' → g1 x (wipe s2 vs1) H' fun s3 H5 => wipe s3 vs1 = wipe s2 vs1 ∧ te s3 H5 fun y H7 => ∃ (c : Int) (S : Int → Bool) (n : Nat), y = .int c ∧ H7 D = some (SetO w D S n) ∧ n + 1 < scanBound ∧
        Nx1 (upd H7 D (SetO w D (fun j => S j || decide (j = c)) (if S c = true then n else n + 1)))))
theorem pe_sc2 {elt tg iter tg1 iter1 : Expr} {sc : Scope} {own : List (Str × Nat)} {vs1 : List Nat} {pos : Pos} {wi wi1 : TI} {g g1 : TG} {te : TE} (hc : X.calm = true) (hN : X.N.Nodup) (hi : PI X tg iter wi) (ok : BlkOk X.N X.env.scope sc own) (hv : ∀ i ∈ vs1, i ∈ own.map (·.2))
    (hg : ∀ s H C cl fp, PG (X.blk s H sc (compEnvC sc cl C X.env) fp) tg g) (hi1 : ∀ s H C cl fp, PI (X.blk s H sc (compEnvC sc cl C X.env) fp) tg1 iter1 wi1)
    (hg1 : ∀ s H C cl fp, PG (X.blk s H sc (compEnvC sc cl C X.env) fp) tg1 g1) (he : ∀ s H C cl fp, PE (X.blk s H sc (compEnvC sc cl C X.env) fp) elt te)
    (hs : ∀ x, foldedSetIterable iter X.env x = pure x := by intro _; rfl) (hs1 : ∀ env x, foldedSetIterable iter1 env x = pure x := by intro _ _; rfl) :
    PE X (Sc2 elt tg iter tg1 iter1 sc pos) (tSc2 X.w wi g wi1 g1 te (own.map (·.2)) vs1) := by
  refine ⟨fun pins s sg H Q I h => ?_⟩
  rw [PpSet.eval_SetComp]
  have caps : ∀ y ∈ sc.names, y.2 = .free → ∃ c, X.env.cells.lookup y.1 = some c := fun y hy e => (ok.free y hy e).elim (fun z => I.ok.has _ (.inl z)) fun z => I.ok.has _ (.inr z)
  refine wpAny_comprehension_free (use := none) rfl hs (closure_ok caps) ok.kind (fun y hy e => by rw [ok.uniq y hy, e]) (thn (hi.run pins s sg H _ I h) fun xv s1 hx => thn hx fun itv s2 h2 => ?_)
  obtain ⟨it, fp, tn, J, H2, rfl, I2, T, st2, f2, q⟩ := h2
  refine PpSet.newSet_ok (newEnv_comp ?_)
  obtain ⟨D, hD⟩ : ∃ D, s2.heap.objs.size = D := ⟨_, rfl⟩
  have hDn : H2 D = none := I2.hok.fresh (Nat.le_of_eq hD)
  obtain ⟨W, ⟨m0, w0⟩, turn⟩ := q D hDn
  obtain ⟨s3, hs3⟩ : ∃ s3 : Shared, s3 = { s2 with heap := s2.heap.push { cls := .type "set", dict := none, data := .set #[] 0 (.fresh 0 0 (!X.w.params.followText "set-order")) } } := ⟨_, rfl⟩
  have I3 : Inv X pins sg (upd H2 D (SetO X.w D (fun _ => false) 0)) s3 := by
    rw [hs3]
    refine I2.laid (t' := s2.toks) (fun b o e => Heap.get?_push_of_some _ e) (Nat.le_of_eq hD) ?_
    rw [← hD]
    exact setO_new (setR_fresh X.w)
  have keep3 : ∀ b o, s2.heap.get? b = some o → s3.heap.get? b = some o := fun b o e => by rw [hs3]; exact Heap.get?_push_of_some _ e
  have size3 : s3.heap.objs.size = s2.heap.objs.size + 1 := by rw [hs3]; exact Heap.size_push _ _
  rw [← hs3, hD]
  have f3 : ∀ b ∈ fp, FpOk X pins (upd H2 D (SetO X.w D (fun _ => false) 0)) b ∧ b < s3.heap.objs.size := fun b hb => by
    obtain ⟨o, e, _⟩ := T.obj _ _ st2 b hb
    have below := Heap.lt_size e
    refine ⟨⟨?_, (f2 b hb).2⟩, by rw [size3]; exact Nat.lt_succ_of_lt below⟩
    rw [upd_ne (by rw [← hD]; exact Nat.ne_of_lt below)]
    exact (f2 b hb).1
  have I4 := block_start I3 ok hN f3
  have pg := hg s3 (upd H2 D (SetO X.w D (fun _ => false) 0)) s3.heap.objs.size (cellsFrom (s3.heap.objs.size + 1) sc.names (cloFrom X.env.cells sc.names [])) fp
  have pe := he s3 (upd H2 D (SetO X.w D (fun _ => false) 0)) s3.heap.objs.size (cellsFrom (s3.heap.objs.size + 1) sc.names (cloFrom X.env.cells sc.names [])) fp
  have pi1 := hi1 s3 (upd H2 D (SetO X.w D (fun _ => false) 0)) s3.heap.objs.size (cellsFrom (s3.heap.objs.size + 1) sc.names (cloFrom X.env.cells sc.names [])) fp
  have pg1 := hg1 s3 (upd H2 D (SetO X.w D (fun _ => false) 0)) s3.heap.objs.size (cellsFrom (s3.heap.objs.size + 1) sc.names (cloFrom X.env.cells sc.names [])) fp
  show codeAny _ _ (.compStart (Sc2 elt tg iter tg1 iter1 sc pos) 0 (.ref it) (.ref D) (compEnvC sc (cellsFrom (s3.heap.objs.size + 1) sc.names (cloFrom X.env.cells sc.names [])) s3.heap.objs.size X.env)) (compPost (model X.prog X.w) X.A X.xe none (EP X pins sg Q) (.ref D) s3.heap.objs.size) { s3 with heap := pushCells (s3.heap.push { cls := .type "dict", data := .dict #[] }) sc.names }
  generalize hce : compEnvC sc (cellsFrom (s3.heap.objs.size + 1) sc.names (cloFrom X.env.cells sc.names [])) s3.heap.objs.size X.env = ce at I4 pg pe pi1 pg1 ⊢
  have cL : ce.locals = s3.heap.objs.size := by subst hce; rfl
  have nfp : ∀ b ∈ fp, (upd H2 D (SetO X.w D (fun _ => false) 0)) b = none := fun b hb => (f3 b hb).1.1
  generalize hH3 : upd H2 D (SetO X.w D (fun _ => false) 0) = H3 at I3 I4 pg pe pi1 pg1 w0 nfp f3
  obtain ⟨s4, hs4⟩ : ∃ s4 : Shared, s4 = { s3 with heap := pushCells (s3.heap.push { cls := .type "dict", data := .dict #[] }) sc.names } := ⟨_, rfl⟩
  rw [← hs4] at I4 ⊢
  have st4 : tn 0 s4.heap := T.keep _ _ _ st2 fun b _ o e => by rw [hs4]; exact pushCells_keeps _ _ _ _ (Heap.get?_push_of_some _ (keep3 b o e))
  have stat : ∀ {sg' : L2.St} {H' : Hp} {s' : Shared}, Inv (X.blk s3 H3 sc ce fp) [] sg' H' s' → (∀ b ∈ fp, H' b = none) → ∀ b ∈ fp, FpOk (X.blk s3 H3 sc ce fp) [] H' b := fun {sg' H' s'} J hn b hb =>
    ⟨hn b hb, (J.ok.exf b hb).1, J.ok.exfs b hb, .inl hb, fun x c e => (J.ok.exf b hb).2 x c e, fun p hp => by simp at hp⟩
  have back : ∀ {H' : Hp} {s' : Shared}, Inv (X.blk s3 H3 sc ce fp) [] (wipe sg (own.map (·.2))) H' s' → Q (.ref D) H' → compPost (model X.prog X.w) X.A X.xe none (EP X pins sg Q) (.ref D) s3.heap.objs.size (.ok .next) s' := fun {H' s'} J qq => by
    have I7 : Inv X pins sg H' s' := I3.call' (ch := fp) J.os J.base J.hok J.bare fun b hb => ⟨(f3 b hb).1.2.2.2.1, (f3 b hb).1.2.1, (f3 b hb).1.2.2.2.2.1, (f3 b hb).1.2.2.2.2.2⟩
    have nC : H' s3.heap.objs.size = none := cL ▸ (show H' ce.locals = none from J.free)
    obtain ⟨m, hn, _⟩ := J.loc
    have hn : s'.heap.Ns ce.locals m := hn
    rw [cL] at hn
    obtain ⟨g0, g1', g2, g3, g4, g5⟩ := I3.fpOk (H' := H') (Nat.le_refl _) nC
    exact ⟨m, hn, fun h'' sb => ⟨.ref D, H', I7.turned (t' := s'.toks) (fun b o hb e => (sb.2 b hb).trans e) g0 g1' g3 g4 g5, rfl, qq⟩⟩
  have loop : codeAny (model X.prog X.w) X.A (.compLoop (Sc2 elt tg iter tg1 iter1 sc pos) 0 (.ref it) (.ref D) ce) (compPost (model X.prog X.w) X.A X.xe none (EP X pins sg Q) (.ref D) s3.heap.objs.size) s4 := by
    refine loop_outer (hs1 ce) (fun n s' => ∃ i H', Inv (X.blk s3 H3 sc ce fp) [] (wipe sg (own.map (·.2))) H' s' ∧ tn i s'.heap ∧ (∀ b ∈ fp, H' b = none) ∧ W i n H') ?_ m0 ⟨0, H3, I4, st4, nfp, w0⟩
    rintro n s5 ⟨i, H5, I5, st5, n5, w5⟩
    rcases turn i n H5 w5 with ⟨stop, qq⟩ | ⟨go, Nx, hNx, step⟩
    · refine thnF (T.done (X.blk s3 H3 sc ce fp) rfl rfl rfl hc i [] s5 _ H5 (fun _ _ => False) I5 (stat I5 n5) st5 stop) fun r s6 ⟨hr, I6⟩ => ?_
      subst hr
      exact back I6 qq
    · refine thnF (T.item (X.blk s3 H3 sc ce fp) rfl rfl rfl hc i [] s5 _ H5 (fun _ _ => False) I5 (stat I5 n5) st5 go) fun r s6 ⟨u, hr, h6⟩ => ?_
      subst hr
      refine thnF h6 fun _ s7 ⟨x, H7, I7, r7, y7, st7, n7⟩ => ?_
      have J7 := I7.pinned (stat I7 n7) (T.obj _ _ st7)
      refine thnF (pg.run _ s7 _ H7 x u _ J7 r7 (step x H7 y7)) fun _ s8 ⟨t8, H8, I8, hw8, q8⟩ => ?_
      have l8 : (wipe sg (own.map (·.2))).length = t8.length := by rw [← hw8, wipe_length]
      have k8 : ∀ (j : Nat) v, (wipe sg (own.map (·.2)))[j]? = some (some v) → (wipe t8 vs1)[j]? = some (some v) := fun j v e => by
        rw [← hw8] at e
        obtain ⟨e1, e2⟩ := wipe_some e
        rw [wipe_out fun z => e2 (hv j z)]
        exact e1
      have fin : ∀ {s' : Shared} {H' : Hp}, Inv (X.blk s3 H3 sc ce fp) ([] ++ pinsAt fp s7.heap) (wipe t8 vs1) H' s' → Nx H' → ∃ m, m < n ∧ ∃ i H', Inv (X.blk s3 H3 sc ce fp) [] (wipe sg (own.map (·.2))) H' s' ∧ tn i s'.heap ∧ (∀ b ∈ fp, H' b = none) ∧ W i m H' := fun {s' H'} J nx => by
        obtain ⟨m', hm, w'⟩ := hNx H' nx
        have pinned : ∀ b ∈ fp, ∀ o, s7.heap.get? b = some o → s'.heap.get? b = some o ∧ H' b = none := fun b hb o e =>
          let z := J.pin (b, o) (List.mem_append_right _ (List.mem_append_right _ (mem_pinsAt hb e)))
          ⟨z.1, z.2.1⟩
        refine ⟨m', hm, i + 1, H', (J.unpinned (pins := [])).weak (l8.trans (wipe_length t8 vs1).symm) k8, T.keep _ _ _ st7 fun b hb o e => (pinned b hb o e).1, fun b hb => ?_, w'⟩
        obtain ⟨o, e, _⟩ := T.obj _ _ st7 b hb
        exact (pinned b hb o e).2
      refine thnF (pi1.run _ s8 t8 H8 _ I8 q8) fun xv s10 hx => thnF hx fun itv s11 h11 => ?_
      obtain ⟨it1, fp1, tn1, J1, H11, rfl, I11, T1, st11, f11, W1, ⟨m1, w1⟩, turn1⟩ := h11
      have stat1 : ∀ {H' : Hp}, (∀ b ∈ fp1, H' b = none) → ∀ b ∈ fp1, FpOk (X.blk s3 H3 sc ce fp) ([] ++ pinsAt fp s7.heap) H' b := fun hn b hb => ⟨hn b hb, (f11 b hb).2⟩
      have loop1 : codeAny (model X.prog X.w) X.A (.compLoop (Sc2 elt tg iter tg1 iter1 sc pos) 1 (.ref it1) (.ref D) ce) (fun r s' => match r with
          | .ok _ => ∃ m, m < n ∧ ∃ i H', Inv (X.blk s3 H3 sc ce fp) [] (wipe sg (own.map (·.2))) H' s' ∧ tn i s'.heap ∧ (∀ b ∈ fp, H' b = none) ∧ W i m H'
          | .error _ => False) s11 := by
        refine loop_inner (fun k s' => ∃ j H', Inv (X.blk s3 H3 sc ce fp) ([] ++ pinsAt fp s7.heap) (wipe t8 vs1) H' s' ∧ tn1 j s'.heap ∧ (∀ b ∈ fp1, H' b = none) ∧ W1 j k H') ?_ m1 ⟨0, H11, I11.weak (wipe_length _ _) (fun j v e => (wipe_some e).1), st11, fun b hb => (f11 b hb).1, w1⟩
        rintro k s12 ⟨j, H12, I12, st12, n12, w12⟩
        rcases turn1 j k H12 w12 with ⟨stop1, nx1⟩ | ⟨go1, Nx1, hNx1, step1⟩
        · refine thnF (T1.done (X.blk s3 H3 sc ce fp) rfl rfl rfl hc j _ s12 (wipe t8 vs1) H12 (fun _ _ => False) I12 (stat1 n12) st12 stop1) fun r s13 ⟨hr, I13⟩ => ?_
          subst hr
          exact fin I13 nx1
        · refine thnF (T1.item (X.blk s3 H3 sc ce fp) rfl rfl rfl hc j _ s12 (wipe t8 vs1) H12 (fun _ _ => False) I12 (stat1 n12) st12 go1) fun r s13 ⟨u1, hr, h13⟩ => ?_
          subst hr
          refine thnF h13 fun _ s14 ⟨x1, H14, I14, r14, y14, st14, n14⟩ => ?_
          have J14 := I14.pinned (stat1 n14) (T1.obj _ _ st14)
          refine thnF (pg1.run _ s14 (wipe t8 vs1) H14 x1 u1 _ J14 r14 (step1 x1 H14 y14)) fun _ s15 ⟨t15, H15, I15, hw15, q15⟩ => ?_
          have fin1 : ∀ {s' : Shared} {H' : Hp}, Inv (X.blk s3 H3 sc ce fp) (([] ++ pinsAt fp s7.heap) ++ pinsAt fp1 s14.heap) t15 H' s' → Nx1 H' → ∃ m, m < k ∧ ∃ j H', Inv (X.blk s3 H3 sc ce fp) ([] ++ pinsAt fp s7.heap) (wipe t8 vs1) H' s' ∧ tn1 j s'.heap ∧ (∀ b ∈ fp1, H' b = none) ∧ W1 j m H' := fun {s' H'} J nx => by
            obtain ⟨m', hm, w'⟩ := hNx1 H' nx
            have pinned : ∀ b ∈ fp1, ∀ o, s14.heap.get? b = some o → s'.heap.get? b = some o ∧ H' b = none := fun b hb o e =>
              let z := J.pin (b, o) (List.mem_append_right _ (List.mem_append_right _ (mem_pinsAt hb e)))
              ⟨z.1, z.2.1⟩
            refine ⟨m', hm, j + 1, H', J.unpinned.weak (by rw [← hw15, wipe_length]) (fun j v e => by rw [← hw15] at e; exact (wipe_some e).1), T1.keep _ _ _ st14 fun b hb o e => (pinned b hb o e).1, fun b hb => ?_, w'⟩
            obtain ⟨o, e, _⟩ := T1.obj _ _ st14 b hb
            exact (pinned b hb o e).2
          refine thnF (pe.run _ s15 t15 H15 _ I15 q15) fun z s17 ⟨yv, H17, I17, r17, c, S, n0, ey, hD17, hz17, nx⟩ => ?_
          subst ey
          exact thnF (mt_sadd (X := X.blk s3 H3 sc ce fp) _ s17 t15 H17 (.ref D) [.int c] (.ref D) [z] (fun _ H' => Nx1 H') I17 rfl (.cons r17 .nil) ⟨D, c, S, n0, rfl, rfl, hD17, hz17, nx⟩) fun _ s18 ⟨_, H18, I18, _, nx18⟩ => fin1 I18 nx18
      exact start_inner loop1 (T1.self X.A 0 _ _ _ st11 loop1)
  exact PpSet.codeAny_compStart_set loop (T.self X.A 0 _ _ _ st4 loop)
end
end Wb

set_option Elab.async false
set_option linter.all false
set_option maxRecDepth 100000
set_option maxHeartbeats 4000000
namespace Wb
open PySem PySem.Spec PyProof.Rows L2
/-! ### a promise told of the very state: what is under way, what cells hold -/
abbrev GS := Around → List Env → Heap → Hp → List V → Prop
def FnS (P : Program) (w : World) (K : PySem.W.Frag) (mg : Str → Option Value) (base : Heap) (k : Nat) (f : Addr) (G : GS) (sp : Sp) : Prop :=
  ∀ (A : Around) (outer : List Env) (s : Shared) (H : Hp) (us : List Value) (vs : List V) (Q : VK), Room k A → Env0 P w K mg base A outer s H → Vals vs us → G A outer s.heap H vs → sp vs H Q E0 →
    codeAny (model P w) A (.call (.ref f) ⟨us, []⟩) (CR CX0 outer P w H s Q E0) s
/-- nothing that guards itself (a repr) is under way -/
def GA : GS := fun A _ _ _ _ => A.guards = some []
section
variable {P : Program} {w : World} {K : PySem.W.Frag} {mg : Str → Option Value} {base : Heap} {x qual : Str} {st : Stmt} {f : Addr} {fd : FuncData} {N ps : List Str} {k : Nat} {sp : Sp} {G : GS}
theorem FnS.mono {j : Nat} (F : FnS P w K mg base j f G sp) (h : j ≤ k) : FnS P w K mg base k f G sp := fun A outer s H us vs Q hr => F A outer s H us vs Q (hr.mono h)
theorem Fun.okS (F : Fun K x qual st f fd) (S : FnScope N ps (defScope st)) (b : Binds K fd ps []) (len : ∀ vs H Q E, sp vs H Q E → vs.length = ps.length)
    (body : ∀ (cdv : Value) (A : Around) (outer : List Env) (s : Shared) (H : Hp) (vs : List V) (Q : VK), Room k (A.deeper (envOfC qual (defScope st) s.heap.objs.size f cdv)) → Env0 P w K mg base A outer s H → G A outer s.heap H vs → sp vs H Q E0 →
      ∃ t, PSs (cxOf CX0 P w K mg base N qual (defScope st) f cdv A outer s H E0).nox (defBody st) t ∧ t { nx := fun _ H' => Q .non H', rt := Q } (start N vs) H) : FnS P w K mg base (k + 1) f G sp := by
  intro A outer s H us vs Q hr e0 r g h
  obtain ⟨oc, od, kV, doc, pm, an, cdv, ct, osl, rfl, lk, hcd⟩ := F.ex
  have hl := len _ _ _ _ h
  have kin : K.In s.heap := e0.mod.kin.keeps fun b o z => (e0.bs b o z).1
  have hb := b s us kin (by rw [List.append_nil, ← r.length]; exact hl)
  rw [List.append_nil] at hb
  refine LamX.run_ofS lk hcd S hr e0 hb r hl fun hr' => ?_
  obtain ⟨t, ht, q⟩ := body cdv A outer s H vs Q hr' e0 g h
  exact ⟨t, ht.nox, q⟩
end
section
variable {X : Cx} {k : Nat} {f : Addr} {sp : Sp} {G : GS} {x : Str} {p pos : Pos} {e : Expr} {es : List Expr} {t : TA}
theorem run_fnS {pins : List (Addr × Obj)} {sg : L2.St} {H : Hp} {s : Shared} {Q : VK} {us : List Value} {vs : List V} (F : FnS X.prog X.w X.K X.mg X.base k f G sp) (hr : Room k X.A) (I : Inv X pins sg H s) (r : Vals vs us) (g : G X.A X.stack s.heap H vs) (h : sp vs H Q E0) :
    wpAny (model X.prog X.w) X.A (call (.ref f) us) (EP X pins sg Q) X.xe s := by
  refine wpAny_call (codeAny_mono (F X.A X.stack s H us vs Q hr I.env0 r g h) fun r s' hq => ?_)
  cases r with
  | error z => exact hq.elim
  | ok fl => cases fl <;> first | exact I.after hq | exact False.elim hq
/-- x(e, ..): G' is what the reading says of the state -/
def tCallS (G' : L2.St → Hp → List V → Prop) (sp : Sp) (t : TA) : TE := fun sg H Q => t sg H fun vs H1 => G' sg H1 vs ∧ sp vs H1 Q E0
theorem pe_callS {G' : L2.St → Hp → List V → Prop} (F : FnS X.prog X.w X.K X.mg X.base k f G sp) (hG : ∀ pins s sg H vs, Inv X pins sg H s → G' sg H vs → G X.A X.stack s.heap H vs) (hr : Room k X.A) (hg : Gl X x) (hm : X.mg x = some (.ref f)) (hk : PySem.W.keepIn X.K (.ref f) = true)
    (ha : PA X (e :: es) t) (hdb : (x == ("__debug__" : Str)) = false := by decide) (hse : starEach (e :: es) X.env = (false, eval e X.env) :: starEach es X.env := by rfl) (hpl : (backTo pos (starEach es X.env)).any (·.1) = false := by rfl) :
    PE X (.Call (.Name x p) (e :: es) [] pos) (tCallS G' sp t) := by
  refine ⟨fun pins s sg H Q I h => wpAny_Call_Name_kw (ld_glob I hg hm ?_ hdb)⟩
  exact PySem.W.callWith_K (h₀ := X.base) I.ok.mod.kin hk (thn (ha.run pos pins s sg H _ I h) fun us s1 ⟨vs, H1, I1, r, g, q⟩ => ⟨I1.kIn, run_fnS F hr I1 r (hG _ _ _ _ _ I1 g) q⟩) hse hpl
/-- the same where only what is under way is asked -/
theorem pe_callG (F : FnS X.prog X.w X.K X.mg X.base k f GA sp) (hga : X.A.guards = some []) (hr : Room k X.A) (hg : Gl X x) (hm : X.mg x = some (.ref f)) (hk : PySem.W.keepIn X.K (.ref f) = true) (ha : PA X (e :: es) t) (hdb : (x == ("__debug__" : Str)) = false := by decide)
    (hse : starEach (e :: es) X.env = (false, eval e X.env) :: starEach es X.env := by rfl) (hpl : (backTo pos (starEach es X.env)).any (·.1) = false := by rfl) : PE X (.Call (.Name x p) (e :: es) [] pos) (fun sg H Q => t sg H fun vs H1 => sp vs H1 Q E0) := by
  have q := pe_callS (p := p) (pos := pos) (G' := fun _ _ _ => True) F (fun _ _ _ _ _ _ _ => hga) hr hg hm hk ha hdb hse hpl
  exact ⟨fun pins s sg H Q I h => q.run pins s sg H Q I (by
    have e1 : (fun (vs : List V) (H1 : Hp) => True ∧ sp vs H1 Q E0) = fun vs H1 => sp vs H1 Q E0 := by funext vs H1; simp
    show t sg H (fun vs H1 => True ∧ sp vs H1 Q E0)
    rw [e1]; exact h)⟩

/-! a local name that holds a def made elsewhere, whose cells are no frame's of ours -/
variable {F : NdefX.NF} {fr ps : List Str} {ws : List (Option V)} {spN : List (Option V) → Sp} {i : Nat}
def tCallC (i : Nat) (f : Addr) (F : NdefX.NF) (sp : Sp) (t : TA) : TE := fun sg H Q => sg[i]? = some (some (V.ref f)) ∧ H f = some (NdefX.FnO f F) ∧ t sg H fun vs H1 => H1 f = some (NdefX.FnO f F) ∧ H1 F.c = some (LamX.CodeO F.c F.qual) ∧ sp vs H1 Q E0
theorem pe_callC (Fn : NdefX.NOk X.prog X.w X.K X.mg X.base CX0 k f F ps fr spN) (C : NdefX.CellsAt F.cl fr ws X.s_0.heap X.H_0) (nf : ∀ y c, F.cl.lookup y = some c → c ∉ X.fs) (nx : X.ex = []) (hr : Room k X.A) (hN : X.N[i]? = some x) (hv : Vis X.env.scope x) (ha : PA X (e :: es) t)
    (hd : (x == ("__debug__" : Str)) = false := by decide) (hcd : (x == ("__classdict__" : Str)) = false := by decide)
    (hse : starEach (e :: es) X.env = (false, eval e X.env) :: starEach es X.env := by rfl) (hpl : (backTo pos (starEach es X.env)).any (·.1) = false := by rfl) : PE X (.Call (.Name x p) (e :: es) [] pos) (tCallC i f F (spN ws) t) := by
  refine ⟨fun pins s sg H Q I h => ?_⟩
  obtain ⟨hs, hf, ht⟩ := h
  refine wpAny_Call_Name_kw (thn ((pe_var (pos := p) hN hv hd hcd).run pins s sg H (fun v H1 => v = V.ref f ∧ H1 = H) I ⟨_, hs, rfl, rfl⟩) fun u s1 ⟨v, H1, I1, r1, ev, eH⟩ => ?_)
  subst ev eH
  obtain rfl : u = Value.ref f := r1
  refine PySem.W.callWith_F (first := []) (NdefX.fnAt_of I1 hf) (thn (ha.run pos pins s1 sg H1 _ I1 ht) fun us s2 ⟨vs, H2, I2, r, h1, h2, q⟩ => ⟨NdefX.fnAt_of I2 h1, ?_⟩) hse hpl
  refine wpAny_call (codeAny_mono (Fn.run X.A X.stack s2 H2 us vs ws Q E0 hr I2.env0 h1 h2 (NdefX.CellsAt.later C nf (fun y c _ z => by rw [nx] at z; cases z) I2) r q) fun r s' hq => ?_)
  cases r with
  | error z => exact hq.elim
  | ok fl => cases fl <;> first | exact I2.after hq | exact False.elim hq
/-- a def's own cells are no running frame -/
theorem cell_nofr {pins : List (Addr × Obj)} {sg : L2.St} {H : Hp} {s : Shared} (I : Inv X pins sg H s) (hfn : ∀ y, X.fn y = true) {y : Str} {c : Addr} (e : X.env.cells.lookup y = some c) : c ∉ frs X.stack := fun hb => by
  rcases List.mem_cons.mp (I.stkSub c hb) with z | z
  · exact I.cne y c e z
  · obtain ⟨_, o, ho, _⟩ := I.ok.funs.mem z
    exact Nat.lt_irrefl _ (Nat.lt_of_lt_of_le (Heap.lt_size ho) (I.ok.cab y c (hfn y) e))
end
end Wb

set_option Elab.async false
set_option linter.all false
set_option maxRecDepth 100000
set_option maxHeartbeats 4000000
namespace Wb
open PySem PySem.Spec PyProof.Rows L2
/-! ### the text by places -/
def top (i : Nat) : Stmt := PySem.Challenge.pw_whateverboxes_k79_whole_sorters_and_mach.main.body.getD i (.Pass ⟨0, 0, 0, 0⟩)
abbrev sLd : Stmt := top 5
abbrev sRI : Stmt := inClass (top 6) 0
abbrev sRC : Stmt := inClass (top 6) 1
abbrev sLI : Stmt := inClass (top 7) 0
abbrev sLC : Stmt := inClass (top 7) 1
abbrev sPI : Stmt := inClass (top 8) 0
abbrev sPC : Stmt := inClass (top 8) 1
abbrev sSI : Stmt := inClass (top 9) 0
abbrev sSmod : Stmt := inClass (top 9) 1
abbrev sSdig : Stmt := inClass (top 9) 2
abbrev sSC : Stmt := inClass (top 9) 3
abbrev sSmul : Stmt := inClass (top 9) 4
abbrev sB1 : Stmt := top 13
abbrev sBar : Stmt := top 14
abbrev sRch : Stmt := top 16
abbrev sExp : Stmt := top 17
abbrev sPst : Stmt := top 18
abbrev sMI : Stmt := inClass (top 19) 0
abbrev sMC : Stmt := inClass (top 19) 1
abbrev sMmul : Stmt := inClass (top 19) 2
abbrev sMsort : Stmt := inClass (top 19) 3
abbrev sMmod : Stmt := inClass (top 19) 4
abbrev sMlast : Stmt := inClass (top 19) 5
abbrev sDeck : Stmt := top 21
abbrev sDraw : Stmt := top 22
abbrev sPick : Stmt := top 23
abbrev sPow : Stmt := top 24
abbrev sNum : Stmt := top 25
abbrev sAlike : Stmt := top 26
abbrev sBound : Stmt := top 27
abbrev sRight : Stmt := top 28
abbrev sLaw : Stmt := top 29

/-! ### defs by promises over positional values -/
def Df (K : PySem.W.Frag) (x qual : Str) (st : Stmt) (f : Addr) : Prop := ∃ fd, Fun K x qual st f fd
theorem Df.kp {K : PySem.W.Frag} {x qual : Str} {st : Stmt} {f : Addr} (D : Df K x qual st f) : PySem.W.keepIn K (.ref f) = true := let ⟨_, F⟩ := D; F.kp
section
variable {P : Program} {w : World} {K : PySem.W.Frag} {mg : Str → Option Value} {base : Heap} {x qual : Str} {st : Stmt} {f : Addr} {N ps : List Str} {k : Nat} {sp : Sp}
abbrev BindsSt (x qual : Str) (st : Stmt) (ps : List Str) : Prop := ∀ (kV doc pm : Value) (an : Option Addr) (cdv ct : Value) (us : List Value), us.length = ps.length → bindArgs (PySem.W.fnOf x qual (defArgs st) (defBody st) (defScope st) .none kV doc pm an cdv ct) ⟨us, []⟩ = pure (ps.zip us)
theorem Df.okR (D : Df K x qual st f) (S : FnScope N ps (defScope st)) (hb : BindsSt x qual st ps) (len : ∀ vs H Q E, sp vs H Q E → vs.length = ps.length)
    (body : ∀ (cdv : Value) (A : Around) (outer : List Env) (s : Shared) (H : Hp) (vs : List V) (Q : VK) (E : XK), Room k (A.deeper (envOfC qual (defScope st) s.heap.objs.size f cdv)) → sp vs H Q E →
      ∃ t, PSs (cxOf CX0 P w K mg base N qual (defScope st) f cdv A outer s H E).nox (defBody st) t ∧ t { nx := fun _ H' => Q .non H', rt := Q } (start N vs) H) : FnR P w K mg base CX0 (k + 1) f sp := by
  obtain ⟨fd, F⟩ := D
  refine ((F.ok (P := P) (w := w) (mg := mg) (base := base) S len body).raw (F.binds hb) .nil).imp fun vs H Q E h => ?_
  rw [List.append_nil]; exact h
theorem Df.okS {G : GS} (D : Df K x qual st f) (S : FnScope N ps (defScope st)) (hb : BindsSt x qual st ps) (len : ∀ vs H Q E, sp vs H Q E → vs.length = ps.length)
    (body : ∀ (cdv : Value) (A : Around) (outer : List Env) (s : Shared) (H : Hp) (vs : List V) (Q : VK), Room k (A.deeper (envOfC qual (defScope st) s.heap.objs.size f cdv)) → Env0 P w K mg base A outer s H → G A outer s.heap H vs → sp vs H Q E0 →
      ∃ t, PSs (cxOf CX0 P w K mg base N qual (defScope st) f cdv A outer s H E0).nox (defBody st) t ∧ t { nx := fun _ H' => Q .non H', rt := Q } (start N vs) H) : FnS P w K mg base (k + 1) f G sp := by
  obtain ⟨fd, F⟩ := D
  exact Fun.okS F S (F.binds hb) len body
end
section
variable {X : Cx} {k : Nat} {f C : Addr} {sp : Sp} {x m : Str} {p pos apos : Pos} {e o : Expr} {es : List Expr} {t : TA} {ta : TE} {pl : Sem Bool}
/-- f(e, ..), f a def of the module -/
def tCallR (sp : Sp) (t : TA) : TE := fun sg H Q => t sg H fun vs H1 => sp vs H1 Q E0
theorem pe_callR (F : FnR X.prog X.w X.K X.mg X.base CX0 k f sp) (hr : Room k X.A) (hg : Gl X x) (hm : X.mg x = some (.ref f)) (hk : PySem.W.keepIn X.K (.ref f) = true) (ha : PA X (e :: es) t) (hdb : (x == ("__debug__" : Str)) = false := by decide)
    (hse : starEach (e :: es) X.env = (false, eval e X.env) :: starEach es X.env := by rfl) (hpl : (backTo pos (starEach es X.env)).any (·.1) = false := by rfl) : PE X (.Call (.Name x p) (e :: es) [] pos) (tCallR sp t) := by
  refine ⟨fun pins s sg H Q I h => wpAny_Call_Name_kw (ld_glob I hg hm ?_ hdb)⟩
  exact PySem.W.callWith_K (h₀ := X.base) I.ok.mod.kin hk (thn (ha.run pos pins s sg H _ I h) fun us s1 ⟨vs, H1, I1, r, q⟩ => ⟨I1.kIn, run_back F hr pass0 I1 r q⟩) hse hpl
/-- o.m() -/
theorem pe_methR0 (he : PE X o ta) (c : Cls X.K C) (hm : Meth X.K C m f) (F : FnR X.prog X.w X.K X.mg X.base CX0 k f sp) (hr : Room k X.A)
    (hev : eval (.Call (.Attribute o m apos) [] [] pos) X.env = (do
      let ov ← eval o X.env
      standAt apos.atName
      let (f, first) ← holding [ov] (getMethod ov m pl)
      callWith pos f first (backTo pos (starEach [] X.env)) (backToKw pos (keywordEach [] X.env))) := by rfl) :
    PE X (.Call (.Attribute o m apos) [] [] pos) (tMethR C m sp E0 ta tNil) := by
  refine ⟨fun pins s sg H Q I h => PySem.W.methodCall_KW (pl := pl) (thn (he.run pins s sg H _ I h) fun u s1 ⟨x, H1, I1, rx, a, dx, fs, ex, ea, l, q⟩ => ?_) hev⟩
  subst ex
  obtain rfl : u = Value.ref a := rx
  refine getmeth_ok I1 ea c hm l ?_
  exact PySem.W.callWith_K0 (first := [.ref a]) I1.kIn hm.kp (run_back (us := [.ref a]) (vs := [V.ref a]) F hr pass0 I1 (.cons rfl .nil) q)
end

/-! ### attributes -/
theorem lk1 (f : Str) (v : V) (r : List (Str × V)) : List.lookup f ((f, v) :: r) = some v := by rw [List.lookup_cons, beq_self_eq_true]
theorem lk2 {f g : Str} (h : ¬ g = f) (v : V) (r : List (Str × V)) : List.lookup g ((f, v) :: r) = List.lookup g r := by rw [List.lookup_cons, beq_eq_false_iff_ne.mpr h]
theorem pf0 (f : Str) (v : V) : putF f v [] = [(f, v)] := rfl
theorem pf1 {f g : Str} (h : ¬ g = f) (v u : V) (r : List (Str × V)) : putF f v ((g, u) :: r) = (g, u) :: putF f v r := if_neg h
abbrev fR (m : Int) : List (Str × V) := [("modulus", .int m)]
abbrev fL (p a : Int) : List (Str × V) := [("prime", .int p), ("after", .int a)]
abbrev fP (x y : Addr) : List (Str × V) := [("first_sorter", .ref x), ("second_sorter", .ref y)]
abbrev fS (n : Int) (r : Addr) : List (Str × V) := [("boxes", .int n), ("rule", .ref r)]
abbrev fM (b : Int) (t u : Addr) (n : Int) : List (Str × V) := [("base", .int b), ("steps", .ref t), ("boxes", .ref u), ("many", .int n)]

/-! ### heaps -/
/-- what never changes once it stands -/
def Fz : HO → Prop
  | .tup _ => True
  | .ins _ _ _ => True
  | _ => False
def Kp (H H' : Hp) : Prop := ∀ b o, H b = some o → Fz o → H' b = some o
theorem Kp.of {H H' : Hp} (e : Same H H') : Kp H H' := fun b o h _ => e b o h
theorem Kp.trans {H H1 H2 : Hp} (a : Kp H H1) (b : Kp H1 H2) : Kp H H2 := fun c o h z => b c o (a c o h z) z
theorem same_upd {H : Hp} {p : Addr} {o : HO} (h : H p = none) : Same H (upd H p o) := fun b u e => by rw [upd_ne (ne_of_none e h)]; exact e
theorem same_upd' {H0 H : Hp} {p : Addr} {o : HO} (s : Same H0 H) (h : H0 p = none) : Same H0 (upd H p o) := fun b u e => by rw [upd_ne (ne_of_none e h)]; exact s b u e
theorem same_made {H : Hp} {x dx C : Addr} {fs : List (Str × V)} (hx : H x = none) (hd : H dx = none) : Same H (upd (upd H dx (.own x)) x (.ins C dx fs)) := same_upd' (same_upd hd) hx
def ni (n : Nat) : V := .int (n : Int)
def RowsAt (H : Hp) (t : Addr) (S : List (List Nat)) : Prop := ∃ rs : List Addr, H t = some (.tup (rs.map V.ref)) ∧ rs.length = S.length ∧ ∀ i r, rs[i]? = some r → H r = some (.tup ((S.getD i []).map ni))
def MachAt (CM : Addr) (H : Hp) (a : Addr) (M : Mac) : Prop := ∃ dx t u, H a = some (.ins CM dx (fM M.b t u M.many)) ∧ RowsAt H t M.S ∧ H u = some (.tup (M.B.map ni))
theorem RowsAt.keep {H H' : Hp} {t : Addr} {S : List (List Nat)} (h : RowsAt H t S) (k : Kp H H') : RowsAt H' t S := let ⟨rs, h1, h2, h3⟩ := h; ⟨rs, k _ _ h1 True.intro, h2, fun i r e => k _ _ (h3 i r e) True.intro⟩
theorem MachAt.keep {CM : Addr} {H H' : Hp} {a : Addr} {M : Mac} (h : MachAt CM H a M) (k : Kp H H') : MachAt CM H' a M := let ⟨dx, t, u, h1, h2, h3⟩ := h; ⟨dx, t, u, k _ _ h1 True.intro, h2.keep k, k _ _ h3 True.intro⟩

/-! ### sorters -/
def own (a : Int) : Int := if (0 : Int) > a then 0 else a
def digv (p : Nat) (a : Int) (n : Nat) : Int := if (n : Int) ≤ a then (n : Int) - 1 else own a + (ld p ((n : Int) - a).toNat : Nat) - 1
inductive Lf where
  | modu (m : Nat) | digs (p : Nat) (a : Int) | mach (M : Mac)
def Lf.val : Lf → Nat → Int
  | .modu m, n => ((n % m : Nat) : Int)
  | .digs p a, n => digv p a n
  | .mach M, n => ((M.val n : Nat) : Int)
def Lf.boxes : Lf → Int
  | .modu m => (m : Int)
  | .digs p a => own a + (p : Int) - 1
  | .mach M => (M.many : Int)
def Lf.ok : Lf → Prop
  | .modu m => 1 ≤ m ∧ m ≤ 12
  | .digs p a => 2 ≤ p ∧ p ≤ 7 ∧ -10 ≤ a ∧ a ≤ 10
  | .mach M => M.Ok
inductive Sr where
  | leaf (f : Lf) | pair (f g : Lf)
def Sr.val : Sr → Nat → Int
  | .leaf f, n => f.val n
  | .pair f g, n => f.val n * g.boxes + g.val n
def Sr.boxes : Sr → Int
  | .leaf f => f.boxes
  | .pair f g => f.boxes * g.boxes
def Sr.ok : Sr → Prop
  | .leaf f => f.ok
  | .pair f g => f.ok ∧ g.ok
/-- the classes -/
structure CC where
  CR : Addr
  CL : Addr
  CP : Addr
  CS : Addr
  CM : Addr
def RuleAt (c : CC) (H : Hp) (r : Addr) : Lf → Prop
  | .modu m => ∃ dr, H r = some (.ins c.CR dr (fR m))
  | .digs p a => ∃ dr, H r = some (.ins c.CL dr (fL p a))
  | .mach M => MachAt c.CM H r M
def LeafAt (c : CC) (H : Hp) (a : Addr) (f : Lf) : Prop := ∃ dx r, H a = some (.ins c.CS dx (fS f.boxes r)) ∧ RuleAt c H r f
def SrAt (c : CC) (H : Hp) (a : Addr) : Sr → Prop
  | .leaf f => LeafAt c H a f
  | .pair f g => ∃ dx r dr x y, H a = some (.ins c.CS dx (fS (f.boxes * g.boxes) r)) ∧ H r = some (.ins c.CP dr (fP x y)) ∧ LeafAt c H x f ∧ LeafAt c H y g
theorem RuleAt.keep {c : CC} {H H' : Hp} {r : Addr} {f : Lf} (h : RuleAt c H r f) (k : Kp H H') : RuleAt c H' r f := by
  cases f with
  | modu m => obtain ⟨dr, h⟩ := h; exact ⟨dr, k _ _ h True.intro⟩
  | digs p a => obtain ⟨dr, h⟩ := h; exact ⟨dr, k _ _ h True.intro⟩
  | mach M => exact MachAt.keep h k
theorem LeafAt.keep {c : CC} {H H' : Hp} {a : Addr} {f : Lf} (h : LeafAt c H a f) (k : Kp H H') : LeafAt c H' a f := let ⟨dx, r, h1, h2⟩ := h; ⟨dx, r, k _ _ h1 True.intro, h2.keep k⟩
theorem SrAt.keep {c : CC} {H H' : Hp} {a : Addr} {f : Sr} (h : SrAt c H a f) (k : Kp H H') : SrAt c H' a f := by
  cases f with
  | leaf f => exact LeafAt.keep h k
  | pair f g =>
    obtain ⟨dx, r, dr, x, y, h1, h2, h3, h4⟩ := h
    exact ⟨dx, r, dr, x, y, k _ _ h1 True.intro, k _ _ h2 True.intro, h3.keep k, h4.keep k⟩
end Wb

set_option Elab.async false
set_option linter.all false
set_option maxRecDepth 100000
set_option maxHeartbeats 4000000
namespace Wb
open PySem PySem.Spec PyProof.Rows L2
structure TS (K : PySem.W.Frag) (mg : Str → Option Value) (c : CC) : Prop where
  clR : Cls K c.CR
  nRm : NoAttr K c.CR "modulus"
  clL : Cls K c.CL
  nLp : NoAttr K c.CL "prime"
  nLa : NoAttr K c.CL "after"
  clP : Cls K c.CP
  nP1 : NoAttr K c.CP "first_sorter"
  nP2 : NoAttr K c.CP "second_sorter"
  clS : Cls K c.CS
  nSb : NoAttr K c.CS "boxes"
  nSr : NoAttr K c.CS "rule"
  clM : Cls K c.CM
  nMb : NoAttr K c.CM "base"
  nMs : NoAttr K c.CM "steps"
  nMx : NoAttr K c.CM "boxes"
  nMm : NoAttr K c.CM "many"
  max : mg "max" = none
  mgR : mg "Remainder" = some (.ref c.CR)
  mgL : mg "LastDigit" = some (.ref c.CL)
  mgP : mg "Pairing" = some (.ref c.CP)
  mgS : mg "Sorter" = some (.ref c.CS)
  mgM : mg "Machine" = some (.ref c.CM)
theorem ap : ¬ (("prime" : Str) = "after") := by decide +kernel
theorem fs_ : ¬ (("first_sorter" : Str) = "second_sorter") := by decide +kernel
theorem br_ : ¬ (("boxes" : Str) = "rule") := by decide +kernel
theorem pa_ : ¬ (("after" : Str) = "prime") := by decide +kernel
theorem sf_ : ¬ (("second_sorter" : Str) = "first_sorter") := by decide +kernel
theorem rb_ : ¬ (("rule" : Str) = "boxes") := by decide +kernel
section
variable {P : Program} {w : World} {K : PySem.W.Frag} {mg : Str → Option Value} {base : Heap} {c : CC} {f : Addr}
/-! ### last_digit -/
def spLd : Sp := fun vs H Q _ => ∃ n b : Nat, vs = [ni n, ni b] ∧ 0 < n ∧ 2 ≤ b ∧ b < 1000 ∧ Q (ni (ld b n)) H
theorem scLd : FnScope ["number", "base", "left"] ["number", "base"] (defScope sLd) := ⟨rfl, rfl, rfl, by decide +kernel, rfl, by decide +kernel, by decide +kernel⟩
theorem bdLd : BindsSt "last_digit" "last_digit" sLd ["number", "base"] := fun _ _ _ _ _ _ us hl => match us, hl with | [_, _], _ => rfl
theorem modc (a b : Nat) : (a : Int) % (b : Int) = ((a % b : Nat) : Int) := by simp
theorem divc (a b : Nat) : (a : Int) / (b : Int) = ((a / b : Nat) : Int) := by simp
theorem ok_ld (D : Df K "last_digit" "last_digit" sLd f) : FnR P w K mg base CX0 1 f spLd := by
  refine D.okR scLd bdLd (fun vs H Q E h => ?_) (fun cdv A outer s H vs Q E hr h => ?_)
  · obtain ⟨n, b, rfl, _⟩ := h
    rfl
  · obtain ⟨n, b, rfl, hn, hb, hb2, k⟩ := h
    refine ⟨_, pss_cons (ps_set (i := 2) scLd.nd rfl (.inl rfl) (pv 0)) (pss_cons (ps_while PassesOwn.never (pt_cmpR op_eq (pe_op op_mod (pv 2) (pv 1)) pe_int (nomark _))
      (pss_one (ps_set (i := 2) scLd.nd rfl (.inl rfl) (pe_op op_fdiv (pv 2) (pv 1))))) (pss_one (ps_ret (pe_op op_mod (pv 2) (pv 1))))), ?_⟩
    refine ⟨_, rfl, fun m sg H' => H' = H ∧ 0 < m ∧ ld b m = ld b n ∧ sg = [some (ni n), some (ni b), some (ni m)], ⟨n, rfl, hn, rfl, rfl⟩, ?_⟩
    rintro m sg H1 ⟨rfl, hm, hl, rfl⟩
    have hbI : (0 : Int) < (b : Int) := by omega
    refine ⟨_, rfl, _, rfl, _, _, rfl, rfl, hbI, rfl, _, rfl, ?_⟩
    refine ite2 (fun h => ?_) (fun h => ?_)
    · have h0 : m % b = 0 := by
        have h1 : (m : Int) % (b : Int) = 0 := V.int.inj (of_decide_eq_true h)
        rw [modc] at h1
        omega
      refine ⟨fun sg' H' => H' = H1 ∧ 0 < m / b ∧ ld b (m / b) = ld b n ∧ sg' = [some (ni n), some (ni b), some (ni (m / b))], fun sg' H' h => ⟨m / b, Nat.div_lt_self hm (by omega), h⟩, ?_⟩
      refine ⟨_, rfl, _, rfl, _, _, rfl, rfl, ⟨hbI, by omega⟩, rfl, div_pos_of h0 hb hm, ?_, ?_⟩
      · rw [← hl, ld_go h0 hb hm]
      · show [some (ni n), some (ni b), some (V.int ((m : Int) / (b : Int)))] = _
        rw [divc]; rfl
    · have h0 : m % b ≠ 0 := fun z => h (decide_eq_true (by show V.int ((m : Int) % (b : Int)) = V.int 0; rw [modc, z]; rfl))
      refine ⟨_, rfl, _, rfl, _, _, rfl, rfl, hbI, ?_⟩
      show Q (V.int ((m : Int) % (b : Int))) H1
      rw [modc]
      rw [← hl, ld_stop h0] at k
      exact k

/-! ### the rules' classes -/
def spRI (c : CC) : Sp := fun vs H Q _ => ∃ (x dx : Addr) (m : Int), vs = [.ref x, .int m] ∧ H x = some (.ins c.CR dx []) ∧ Q .non (upd H x (.ins c.CR dx (fR m)))
theorem scRI : FnScope ["self", "modulus"] ["self", "modulus"] (defScope sRI) := ⟨rfl, rfl, rfl, by decide +kernel, rfl, by decide +kernel, by decide +kernel⟩
theorem bdRI : BindsSt "__init__" "Remainder.__init__" sRI ["self", "modulus"] := fun _ _ _ _ _ _ us hl => match us, hl with | [_, _], _ => rfl
theorem ok_RI (T : TS K mg c) (D : Df K "__init__" "Remainder.__init__" sRI f) : FnR P w K mg base CX0 1 f (spRI c) := by
  refine D.okR scRI bdRI (fun vs H Q E h => ?_) (fun cdv A outer s H vs Q E hr h => ?_)
  · obtain ⟨_, _, _, rfl, _⟩ := h
    rfl
  · obtain ⟨x, dx, m, rfl, hx, k⟩ := h
    exact ⟨_, pss_one (ps_fld (pv 0) (pv 1) rfl), _, rfl, _, rfl, x, c.CR, dx, [], rfl, hx, T.clR, T.nRm, (by decide), k⟩
def spRC (c : CC) : Sp := fun vs H Q _ => ∃ (r dr : Addr) (m n : Nat), vs = [.ref r, ni n] ∧ H r = some (.ins c.CR dr (fR m)) ∧ 1 ≤ m ∧ Q (.int ((n % m : Nat) : Int)) H
theorem scRC : FnScope ["self", "number"] ["self", "number"] (defScope sRC) := ⟨rfl, rfl, rfl, by decide +kernel, rfl, by decide +kernel, by decide +kernel⟩
theorem bdRC : BindsSt "__call__" "Remainder.__call__" sRC ["self", "number"] := fun _ _ _ _ _ _ us hl => match us, hl with | [_, _], _ => rfl
theorem ok_RC (T : TS K mg c) (D : Df K "__call__" "Remainder.__call__" sRC f) : FnR P w K mg base CX0 1 f (spRC c) := by
  refine D.okR scRC bdRC (fun vs H Q E h => ?_) (fun cdv A outer s H vs Q E hr h => ?_)
  · obtain ⟨_, _, _, _, rfl, _⟩ := h
    rfl
  · obtain ⟨r, dr, m, n, rfl, hx, hm, k⟩ := h
    refine ⟨_, pss_one (ps_ret (pe_op op_mod (pv 1) (pe_fld (pv 0) rfl))), _, rfl, _, rfl, r, c.CR, dr, _, _, rfl, hx, T.clR, T.nRm, lk1 _ _ _, _, _, rfl, rfl, (by omega), ?_⟩
    show Q (V.int ((n : Int) % (m : Int))) H
    rw [modc]
    exact k
def spLI (c : CC) : Sp := fun vs H Q _ => ∃ (x dx : Addr) (p a : Int), vs = [.ref x, .int p, .int a] ∧ H x = some (.ins c.CL dx []) ∧ Q .non (upd H x (.ins c.CL dx (fL p a)))
theorem scLI : FnScope ["self", "prime", "after"] ["self", "prime", "after"] (defScope sLI) := ⟨rfl, rfl, rfl, by decide +kernel, rfl, by decide +kernel, by decide +kernel⟩
theorem bdLI : BindsSt "__init__" "LastDigit.__init__" sLI ["self", "prime", "after"] := fun _ _ _ _ _ _ us hl => match us, hl with | [_, _, _], _ => rfl
theorem ok_LI (T : TS K mg c) (D : Df K "__init__" "LastDigit.__init__" sLI f) : FnR P w K mg base CX0 1 f (spLI c) := by
  refine D.okR scLI bdLI (fun vs H Q E h => ?_) (fun cdv A outer s H vs Q E hr h => ?_)
  · obtain ⟨_, _, _, _, rfl, _⟩ := h
    rfl
  · obtain ⟨x, dx, p, a, rfl, hx, k⟩ := h
    refine ⟨_, pss_cons (ps_fld (pv 0) (pv 1) rfl) (pss_one (ps_fld (pv 0) (pv 2) rfl)), _, rfl, _, rfl, x, c.CL, dx, [], rfl, hx, T.clL, T.nLp, (by decide), _, rfl, _, rfl, x, c.CL, dx, _, rfl, upd_same, T.clL, T.nLa, (by show 1 < 1000; decide), ?_⟩
    rw [upd_upd, pf0, pf1 ap, pf0]
    exact k
def spLC (c : CC) : Sp := fun vs H Q _ => ∃ (r dr : Addr) (p : Nat) (a : Int) (n : Nat), vs = [.ref r, ni n] ∧ H r = some (.ins c.CL dr (fL p a)) ∧ 2 ≤ p ∧ p < 1000 ∧ 1 ≤ n ∧ Q (.int (digv p a n)) H
theorem scLC : FnScope ["self", "number"] ["self", "number"] (defScope sLC) := ⟨rfl, rfl, rfl, by decide +kernel, rfl, by decide +kernel, by decide +kernel⟩
theorem bdLC : BindsSt "__call__" "LastDigit.__call__" sLC ["self", "number"] := fun _ _ _ _ _ _ us hl => match us, hl with | [_, _], _ => rfl
theorem ok_LC (T : TS K mg c) {fl : Addr} (Dl : Df K "last_digit" "last_digit" sLd fl) (ml : mg "last_digit" = some (.ref fl)) (D : Df K "__call__" "LastDigit.__call__" sLC f) : FnR P w K mg base CX0 2 f (spLC c) := by
  refine D.okR scLC bdLC (fun vs H Q E h => ?_) (fun cdv A outer s H vs Q E hr h => ?_)
  · obtain ⟨_, _, _, _, _, rfl, _⟩ := h
    rfl
  · obtain ⟨r, dr, p, a, n, rfl, hx, hp, hp2, hn, k⟩ := h
    have GL : FnR P w K mg base CX0 1 fl spLd := ok_ld Dl
    refine ⟨_, pss_cons (ps_if (pt_cmpR op_le (pv 1) (pe_fld (pv 0) rfl) (nomark _)) (pss_one (ps_ret (pe_op op_sub (pv 1) pe_int))) pss_nil)
      (pss_one (ps_ret (pe_op op_sub (pe_op op_add (pe_callB (call_max2 rfl) (by rfl) T.max (by decide +kernel) (pa_cons (pe_fld (pv 0) rfl) (pa_cons pe_int pa_nil)))
        (pe_callR GL hr (by rfl) ml Dl.kp (pa_cons (pe_op op_sub (pv 1) (pe_fld (pv 0) rfl)) (pa_cons (pe_fld (pv 0) rfl) pa_nil)))) pe_int))), ?_⟩
    refine ⟨_, rfl, _, rfl, r, c.CL, dr, _, _, rfl, hx, T.clL, T.nLa, ((lk2 pa_ _ _).trans (lk1 _ _ _)), _, _, rfl, rfl, _, rfl, ?_⟩
    refine ite2 (fun h => ?_) (fun h => ?_)
    · refine ⟨_, rfl, _, _, rfl, rfl, ?_⟩
      have h := of_decide_eq_true h
      unfold digv at k
      rw [if_pos h] at k
      exact k
    · have h : ¬ (n : Int) ≤ a := fun z => h (decide_eq_true z)
      have e : ((n : Int) - a) = (((n : Int) - a).toNat : Int) := by omega
      refine ⟨_, rfl, r, c.CL, dr, _, _, rfl, hx, T.clL, T.nLa, ((lk2 pa_ _ _).trans (lk1 _ _ _)), _, _, rfl, ?_⟩
      refine ⟨_, rfl, _, rfl, r, c.CL, dr, _, _, rfl, hx, T.clL, T.nLa, ((lk2 pa_ _ _).trans (lk1 _ _ _)), _, _, rfl, rfl, _, rfl, r, c.CL, dr, _, _, rfl, hx, T.clL, T.nLp, lk1 _ _ _, ((n : Int) - a).toNat, p, ?_, by omega, hp, hp2, ?_⟩
      · show [V.int ((n : Int) - a), V.int (p : Int)] = _
        rw [e]; rfl
      · refine ⟨_, _, rfl, rfl, _, _, rfl, rfl, ?_⟩
        unfold digv own at k
        rw [if_neg h] at k
        exact k
def spPI (c : CC) : Sp := fun vs H Q _ => ∃ (x dx y z : Addr), vs = [.ref x, .ref y, .ref z] ∧ H x = some (.ins c.CP dx []) ∧ Q .non (upd H x (.ins c.CP dx (fP y z)))
theorem scPI : FnScope ["self", "first_sorter", "second_sorter"] ["self", "first_sorter", "second_sorter"] (defScope sPI) := ⟨rfl, rfl, rfl, by decide +kernel, rfl, by decide +kernel, by decide +kernel⟩
theorem bdPI : BindsSt "__init__" "Pairing.__init__" sPI ["self", "first_sorter", "second_sorter"] := fun _ _ _ _ _ _ us hl => match us, hl with | [_, _, _], _ => rfl
theorem ok_PI (T : TS K mg c) (D : Df K "__init__" "Pairing.__init__" sPI f) : FnR P w K mg base CX0 1 f (spPI c) := by
  refine D.okR scPI bdPI (fun vs H Q E h => ?_) (fun cdv A outer s H vs Q E hr h => ?_)
  · obtain ⟨_, _, _, _, rfl, _⟩ := h
    rfl
  · obtain ⟨x, dx, y, z, rfl, hx, k⟩ := h
    refine ⟨_, pss_cons (ps_fld (pv 0) (pv 1) rfl) (pss_one (ps_fld (pv 0) (pv 2) rfl)), _, rfl, _, rfl, x, c.CP, dx, [], rfl, hx, T.clP, T.nP1, (by decide), _, rfl, _, rfl, x, c.CP, dx, _, rfl, upd_same, T.clP, T.nP2, (by show 1 < 1000; decide), ?_⟩
    rw [upd_upd, pf0, pf1 fs_, pf0]
    exact k
def spSI (c : CC) : Sp := fun vs H Q _ => ∃ (x dx r : Addr) (n : Int), vs = [.ref x, .int n, .ref r] ∧ H x = some (.ins c.CS dx []) ∧ Q .non (upd H x (.ins c.CS dx (fS n r)))
theorem scSI : FnScope ["self", "boxes", "rule"] ["self", "boxes", "rule"] (defScope sSI) := ⟨rfl, rfl, rfl, by decide +kernel, rfl, by decide +kernel, by decide +kernel⟩
theorem bdSI : BindsSt "__init__" "Sorter.__init__" sSI ["self", "boxes", "rule"] := fun _ _ _ _ _ _ us hl => match us, hl with | [_, _, _], _ => rfl
theorem ok_SI (T : TS K mg c) (D : Df K "__init__" "Sorter.__init__" sSI f) : FnR P w K mg base CX0 1 f (spSI c) := by
  refine D.okR scSI bdSI (fun vs H Q E h => ?_) (fun cdv A outer s H vs Q E hr h => ?_)
  · obtain ⟨_, _, _, _, rfl, _⟩ := h
    rfl
  · obtain ⟨x, dx, r, n, rfl, hx, k⟩ := h
    refine ⟨_, pss_cons (ps_fld (pv 0) (pv 1) rfl) (pss_one (ps_fld (pv 0) (pv 2) rfl)), _, rfl, _, rfl, x, c.CS, dx, [], rfl, hx, T.clS, T.nSb, (by decide), _, rfl, _, rfl, x, c.CS, dx, _, rfl, upd_same, T.clS, T.nSr, (by show 1 < 1000; decide), ?_⟩
    rw [upd_upd, pf0, pf1 br_, pf0]
    exact k
end
end Wb

set_option Elab.async false
set_option linter.all false
set_option maxRecDepth 100000
set_option maxHeartbeats 4000000
namespace Wb
open PySem PySem.Spec PyProof.Rows L2
theorem mb1 : ¬ (("steps" : Str) = "base") := by decide +kernel
theorem mb2 : ¬ (("boxes" : Str) = "base") := by decide +kernel
theorem mb3 : ¬ (("boxes" : Str) = "steps") := by decide +kernel
theorem mb4 : ¬ (("many" : Str) = "base") := by decide +kernel
theorem mb5 : ¬ (("many" : Str) = "steps") := by decide +kernel
theorem mb6 : ¬ (("many" : Str) = "boxes") := by decide +kernel
theorem mb7 : ¬ (("base" : Str) = "steps") := by decide +kernel
theorem mb8 : ¬ (("base" : Str) = "boxes") := by decide +kernel
theorem mb9 : ¬ (("steps" : Str) = "boxes") := by decide +kernel
theorem mbA : ¬ (("base" : Str) = "many") := by decide +kernel
theorem mbB : ¬ (("steps" : Str) = "many") := by decide +kernel
theorem mbC : ¬ (("boxes" : Str) = "many") := by decide +kernel
section
variable (b : Int) (t u : Addr) (n : Int)
theorem fM_base : (fM b t u n).lookup ("base" : Str) = some (.int b) := lk1 _ _ _
theorem fM_steps : (fM b t u n).lookup ("steps" : Str) = some (.ref t) := (lk2 mb1 _ _).trans (lk1 _ _ _)
theorem fM_boxes : (fM b t u n).lookup ("boxes" : Str) = some (.ref u) := (lk2 mb2 _ _).trans ((lk2 mb3 _ _).trans (lk1 _ _ _))
theorem fM_many : (fM b t u n).lookup ("many" : Str) = some (.int n) := (lk2 mb4 _ _).trans ((lk2 mb5 _ _).trans ((lk2 mb6 _ _).trans (lk1 _ _ _)))
end
theorem ni_at {l : List Nat} {i : Nat} (h : i < l.length) : (l.map ni)[i]? = some (ni (l.getD i 0)) := by
  rw [List.getElem?_map, get_of 0 h]; rfl
section
variable {P : Program} {w : World} {K : PySem.W.Frag} {mg : Str → Option Value} {base : Heap} {c : CC} {f : Addr}
/-! ### Machine.__call__ -/
def spMC (c : CC) : Sp := fun vs H Q _ => ∃ (a : Addr) (M : Mac) (n : Nat), vs = [.ref a, ni n] ∧ MachAt c.CM H a M ∧ Raw M.b M.S M.B ∧ Q (ni (M.val n)) H
theorem scMC : FnScope ["self", "number", "state", "rest"] ["self", "number"] (defScope sMC) := ⟨rfl, rfl, rfl, by decide +kernel, rfl, by decide +kernel, by decide +kernel⟩
theorem bdMC : BindsSt "__call__" "Machine.__call__" sMC ["self", "number"] := fun _ _ _ _ _ _ us hl => match us, hl with | [_, _], _ => rfl
theorem ok_MC (T : TS K mg c) (D : Df K "__call__" "Machine.__call__" sMC f) : FnR P w K mg base CX0 1 f (spMC c) := by
  refine D.okR scMC bdMC (fun vs H Q E h => ?_) (fun cdv A outer s H vs Q E hr h => ?_)
  · obtain ⟨_, _, _, rfl, _⟩ := h
    rfl
  · obtain ⟨a, M, n, rfl, ⟨dx, t, u, h1, ⟨rs, h2, hl, h3⟩, h4⟩, R, k⟩ := h
    refine ⟨_, pss_cons (ps_par (i := 2) (j := 3) rfl scMC.nd rfl rfl (by decide) rfl rfl (pa_cons pe_int (pa_cons (pv 1) pa_nil)) rfl)
      (pss_cons (ps_while PassesOwn.never (pt_cmpR op_gt (pv 3) pe_int (nomark _))
        (pss_cons (ps_set (i := 2) scMC.nd rfl (.inl rfl) (pe_ix ix_tup (pe_ix ix_tup (pe_fld (pv 0) rfl) (pv 2) (fun _ _ => rfl)) (pe_op op_mod (pv 3) (pe_fld (pv 0) rfl)) (fun _ _ => rfl)))
          (pss_one (ps_set (i := 3) scMC.nd rfl (.inl rfl) (pe_op op_fdiv (pv 3) (pe_fld (pv 0) rfl))))))
      (pss_one (ps_ret (pe_ix ix_tup (pe_fld (pv 0) rfl) (pv 2) (fun _ _ => rfl))))), ?_⟩
    refine ⟨_, rfl, _, _, rfl, fun m sg H' => H' = H ∧ ∃ q, q < M.S.length ∧ run M.S M.b q m = run M.S M.b 0 n ∧ sg = [some (.ref a), some (ni n), some (ni q), some (ni m)], ⟨n, rfl, 0, R.pos, rfl, rfl⟩, ?_⟩
    rintro m sg H1 ⟨rfl, q, hq, hrun, rfl⟩
    have b2 := R.b2
    have b10 := R.b10
    have hbI : (0 : Int) < (M.b : Int) := by omega
    refine ⟨_, rfl, _, _, rfl, rfl, _, rfl, ?_⟩
    refine ite2 (fun h => ?_) (fun h => ?_)
    · have hm : 0 < m := by
        have h := of_decide_eq_true h
        omega
      have hd : m % M.b < M.b := Nat.mod_lt m (by omega)
      obtain ⟨r, hr1⟩ : ∃ r, rs[q]? = some r := ⟨_, List.getElem?_eq_getElem (by rw [hl]; exact hq)⟩
      refine ⟨fun sg' H' => H' = H1 ∧ ∃ q', q' < M.S.length ∧ run M.S M.b q' (m / M.b) = run M.S M.b 0 n ∧ sg' = [some (.ref a), some (ni n), some (ni q'), some (ni (m / M.b))], fun sg' H' z => ⟨m / M.b, Nat.div_lt_self hm (by omega), z⟩, ?_⟩
      refine ⟨_, rfl, a, c.CM, dx, _, _, rfl, h1, T.clM, T.nMs, fM_steps _ _ _ _, _, rfl, t, _, _, .ref r, rfl, rfl, SqT.of h2, atI_nat (by rw [List.getElem?_map, hr1]; rfl), ?_⟩
      refine ⟨_, rfl, _, rfl, a, c.CM, dx, _, _, rfl, h1, T.clM, T.nMb, fM_base _ _ _ _, _, _, rfl, rfl, hbI, r, _, ((m % M.b : Nat) : Int), ni (nxt M.S q (m % M.b)), rfl, ?_, SqT.of (h3 q r hr1), atI_nat (ni_at (by rw [R.row q hq]; exact hd)), ?_⟩
      · show V.int ((m : Int) % (M.b : Int)) = _
        rw [modc]
      · refine ⟨_, rfl, _, rfl, a, c.CM, dx, _, _, rfl, h1, T.clM, T.nMb, fM_base _ _ _ _, _, _, rfl, rfl, ⟨hbI, by omega⟩, rfl, nxt M.S q (m % M.b), R.lt q _ hq hd, ?_, ?_⟩
        · rw [← run_step b2 hm]
          exact hrun
        · show [some (V.ref a), some (ni n), some (ni _), some (V.int ((m : Int) / (M.b : Int)))] = _
          rw [divc]; rfl
    · have hm : m = 0 := by
        have h : ¬ (0 : Int) < (m : Int) := fun z => h (decide_eq_true z)
        omega
      subst hm
      rw [run_nil] at hrun
      refine ⟨_, rfl, a, c.CM, dx, _, _, rfl, h1, T.clM, T.nMx, fM_boxes _ _ _ _, _, rfl, u, _, _, ni (M.B.getD q 0), rfl, rfl, SqT.of h4, atI_nat (ni_at (by rw [R.lenB]; exact hq)), ?_⟩
      rw [hrun]
      exact k

/-! ### Sorter.__call__ on a sorter by one rule -/
def spSL (c : CC) : Sp := fun vs H Q _ => ∃ (a : Addr) (g : Lf) (n : Nat), vs = [.ref a, ni n] ∧ LeafAt c H a g ∧ g.ok ∧ 1 ≤ n ∧ Q (.int (g.val n)) H
theorem scSC : FnScope ["self", "number"] ["self", "number"] (defScope sSC) := ⟨rfl, rfl, rfl, by decide +kernel, rfl, by decide +kernel, by decide +kernel⟩
theorem bdSC : BindsSt "__call__" "Sorter.__call__" sSC ["self", "number"] := fun _ _ _ _ _ _ us hl => match us, hl with | [_, _], _ => rfl
/-- the calls of the rules' classes -/
structure TR (K : PySem.W.Frag) (mg : Str → Option Value) (c : CC) (fRC fLC fMC fl fPC fSC : Addr) : Prop where
  cR : StX.CallO K c.CR fRC
  cL : StX.CallO K c.CL fLC
  cM : StX.CallO K c.CM fMC
  cP : StX.CallO K c.CP fPC
  cS : StX.CallO K c.CS fSC
  dR : Df K "__call__" "Remainder.__call__" sRC fRC
  dL : Df K "__call__" "LastDigit.__call__" sLC fLC
  dM : Df K "__call__" "Machine.__call__" sMC fMC
  dP : Df K "__call__" "Pairing.__call__" sPC fPC
  dS : Df K "__call__" "Sorter.__call__" sSC fSC
  dl : Df K "last_digit" "last_digit" sLd fl
  ml : mg "last_digit" = some (.ref fl)
def TRule (c : CC) (C : Addr) (sp : Sp) : Prop := (C = c.CR ∧ sp = spRC c) ∨ (C = c.CL ∧ sp = spLC c) ∨ (C = c.CM ∧ sp = spMC c)
variable {fRC fLC fMC fl fPC fSC : Addr}
theorem tr_rule (T : TS K mg c) (R : TR K mg c fRC fLC fMC fl fPC fSC) : ∀ C sp, TRule c C sp → ∃ g, StX.CallO K C g ∧ FnR P w K mg base CX0 2 g sp := by
  rintro C sp (⟨rfl, rfl⟩ | ⟨rfl, rfl⟩ | ⟨rfl, rfl⟩)
  · exact ⟨fRC, R.cR, (ok_RC T R.dR).mono (by decide)⟩
  · exact ⟨fLC, R.cL, ok_LC T R.dl R.ml R.dL⟩
  · exact ⟨fMC, R.cM, (ok_MC T R.dM).mono (by decide)⟩
/-- what the rule's object says, by its class -/
theorem rule_reads {H : Hp} {X : Cx} {r : Addr} {g : Lf} {n : Nat} {Q : VK} (h : RuleAt c H r g) (ok : g.ok) (hn : 1 ≤ n) (k : Q (.int (g.val n)) H) : ∃ C sp, TRule c C sp ∧ StX.InsC X H r C ∧ sp [.ref r, ni n] H Q E0 := by
  cases g with
  | modu m => obtain ⟨dr, h⟩ := h; exact ⟨c.CR, _, .inl ⟨rfl, rfl⟩, .inr ⟨dr, _, h⟩, r, dr, m, n, rfl, h, ok.1, k⟩
  | digs p a => obtain ⟨dr, h⟩ := h; exact ⟨c.CL, _, .inr (.inl ⟨rfl, rfl⟩), .inr ⟨dr, _, h⟩, r, dr, p, a, n, rfl, h, ok.1, Nat.lt_of_le_of_lt ok.2.1 (by decide), hn, k⟩
  | mach M =>
    obtain ⟨dx, t, u, h1, h2⟩ := id h
    exact ⟨c.CM, _, .inr (.inr ⟨rfl, rfl⟩), .inr ⟨dx, _, h1⟩, r, M, n, rfl, h, Mac.Ok.raw ok, k⟩
theorem ok_SL (T : TS K mg c) (R : TR K mg c fRC fLC fMC fl fPC fSC) : FnR P w K mg base CX0 3 fSC (spSL c) := by
  refine R.dS.okR scSC bdSC (fun vs H Q E h => ?_) (fun cdv A outer s H vs Q E hr h => ?_)
  · obtain ⟨_, _, _, rfl, _⟩ := h
    rfl
  · obtain ⟨a, g, n, rfl, ⟨dx, r, h1, h2⟩, ok, hn, k⟩ := h
    refine ⟨_, pss_one (ps_ret (pe_callF (tr_rule T R) (pv 0) hr pass0 (pa_cons (pv 1) pa_nil))), _, rfl, a, c.CS, dx, _, r, rfl, h1, T.clS, T.nSr, (lk2 rb_ _ _).trans (lk1 _ _ _), _, rfl, ?_⟩
    exact rule_reads h2 ok hn k

/-! ### Pairing.__call__, then Sorter.__call__ on any sorter -/
def PairAt (c : CC) (H : Hp) (r : Addr) (g h : Lf) : Prop := ∃ dr x y, H r = some (.ins c.CP dr (fP x y)) ∧ LeafAt c H x g ∧ LeafAt c H y h
def spPC (c : CC) : Sp := fun vs H Q _ => ∃ (r : Addr) (g h : Lf) (n : Nat), vs = [.ref r, ni n] ∧ PairAt c H r g h ∧ g.ok ∧ h.ok ∧ 1 ≤ n ∧ Q (.int (g.val n * h.boxes + h.val n)) H
theorem scPC : FnScope ["self", "number"] ["self", "number"] (defScope sPC) := ⟨rfl, rfl, rfl, by decide +kernel, rfl, by decide +kernel, by decide +kernel⟩
theorem bdPC : BindsSt "__call__" "Pairing.__call__" sPC ["self", "number"] := fun _ _ _ _ _ _ us hl => match us, hl with | [_, _], _ => rfl
def TLeaf (c : CC) (C : Addr) (sp : Sp) : Prop := C = c.CS ∧ sp = spSL c
theorem boxes_small {g : Lf} (ok : g.ok) : 1 ≤ g.boxes ∧ g.boxes ≤ 200 := by
  cases g with
  | modu m => have := ok.1; have := ok.2; simp only [Lf.boxes]; omega
  | digs p a =>
    obtain ⟨h1, h2, h3, h4⟩ := ok
    simp only [Lf.boxes, own]
    split <;> omega
  | mach M =>
    have h1 : M.Ok := ok
    have h2 := h1.le
    obtain ⟨s, _, h3⟩ := h1.top (List.range M.S.length) ⟨List.mem_range.mpr h1.raw.pos, fun s hs => List.mem_range.mp hs, fun s d hs hd => List.mem_range.mpr (h1.raw.lt s d (List.mem_range.mp hs) hd)⟩
    simp only [Lf.boxes]
    omega
theorem ok_PC (T : TS K mg c) (R : TR K mg c fRC fLC fMC fl fPC fSC) : FnR P w K mg base CX0 4 fPC (spPC c) := by
  refine R.dP.okR scPC bdPC (fun vs H Q E h => ?_) (fun cdv A outer s H vs Q E hr h => ?_)
  · obtain ⟨_, _, _, _, rfl, _⟩ := h
    rfl
  · obtain ⟨r, g, h, n, rfl, ⟨dr, x, y, h1, hx, hy⟩, og, oh, hn, k⟩ := h
    have hT : ∀ C sp, TLeaf c C sp → ∃ g, StX.CallO K C g ∧ FnR P w K mg base CX0 3 g sp := by
      rintro C sp ⟨rfl, rfl⟩
      exact ⟨fSC, R.cS, ok_SL T R⟩
    obtain ⟨b1, b2⟩ := boxes_small oh
    obtain ⟨dxx, rx, ex, ex'⟩ := id hx
    obtain ⟨dy, ry, ey, ey'⟩ := id hy
    refine ⟨_, pss_one (ps_ret (pe_op op_add (pe_op op_mul (pe_callF hT (pv 0) hr pass0 (pa_cons (pv 1) pa_nil)) (pe_fld (pe_fld (pv 0) rfl) rfl)) (pe_callF hT (pv 0) hr pass0 (pa_cons (pv 1) pa_nil)))), ?_⟩
    refine ⟨_, rfl, r, c.CP, dr, _, x, rfl, h1, T.clP, T.nP1, lk1 _ _ _, _, rfl, c.CS, _, ⟨rfl, rfl⟩, .inr ⟨dxx, _, ex⟩, x, g, n, rfl, hx, og, hn, ?_⟩
    refine ⟨_, rfl, r, c.CP, dr, _, .ref y, rfl, h1, T.clP, T.nP2, (lk2 sf_ _ _).trans (lk1 _ _ _), y, c.CS, dy, _, _, rfl, ey, T.clS, T.nSb, lk1 _ _ _, _, _, rfl, rfl, .inr ⟨by omega, by omega⟩, ?_⟩
    refine ⟨_, rfl, r, c.CP, dr, _, y, rfl, h1, T.clP, T.nP2, (lk2 sf_ _ _).trans (lk1 _ _ _), _, rfl, c.CS, _, ⟨rfl, rfl⟩, .inr ⟨dy, _, ey⟩, y, h, n, rfl, hy, oh, hn, ?_⟩
    exact ⟨_, _, rfl, rfl, k⟩
def TAny (c : CC) (C : Addr) (sp : Sp) : Prop := TRule c C sp ∨ (C = c.CP ∧ sp = spPC c)
def spS (c : CC) : Sp := fun vs H Q _ => ∃ (a : Addr) (g : Sr) (n : Nat), vs = [.ref a, ni n] ∧ SrAt c H a g ∧ g.ok ∧ 1 ≤ n ∧ Q (.int (g.val n)) H
theorem ok_S (T : TS K mg c) (R : TR K mg c fRC fLC fMC fl fPC fSC) : FnR P w K mg base CX0 5 fSC (spS c) := by
  refine R.dS.okR scSC bdSC (fun vs H Q E h => ?_) (fun cdv A outer s H vs Q E hr h => ?_)
  · obtain ⟨_, _, _, rfl, _⟩ := h
    rfl
  · obtain ⟨a, g, n, rfl, hg, ok, hn, k⟩ := h
    have hT : ∀ C sp, TAny c C sp → ∃ g, StX.CallO K C g ∧ FnR P w K mg base CX0 4 g sp := by
      rintro C sp (h | ⟨rfl, rfl⟩)
      · obtain ⟨g, h1, h2⟩ := tr_rule (P := P) (w := w) (base := base) T R C sp h
        exact ⟨g, h1, h2.mono (by decide)⟩
      · exact ⟨fPC, R.cP, ok_PC T R⟩
    refine ⟨_, pss_one (ps_ret (pe_callF hT (pv 0) hr pass0 (pa_cons (pv 1) pa_nil))), _, rfl, ?_⟩
    cases g with
    | leaf g =>
      obtain ⟨dx, r, h1, h2⟩ := hg
      refine ⟨a, c.CS, dx, _, r, rfl, h1, T.clS, T.nSr, (lk2 rb_ _ _).trans (lk1 _ _ _), _, rfl, ?_⟩
      obtain ⟨C, sp, q1, q2, q3⟩ := rule_reads (c := c) h2 ok hn k
      exact ⟨C, sp, .inl q1, q2, q3⟩
    | pair g h =>
      obtain ⟨dx, r, dr, x, y, h1, h2, h3, h4⟩ := hg
      exact ⟨a, c.CS, dx, _, r, rfl, h1, T.clS, T.nSr, (lk2 rb_ _ _).trans (lk1 _ _ _), _, rfl, c.CP, _, .inr ⟨rfl, rfl⟩, .inr ⟨dr, _, h2⟩, r, g, h, n, rfl, ⟨dr, x, y, h2, h3, h4⟩, ok.1, ok.2, hn, k⟩
end
end Wb

set_option Elab.async false
set_option linter.all false
set_option maxRecDepth 100000
set_option maxHeartbeats 4000000
namespace Wb
open PySem PySem.Spec PyProof.Rows L2
/-- what making wants -/
structure TM (K : PySem.W.Frag) (c : CC) (fRI fLI fPI fSI : Addr) : Prop where
  mkR : Mk K c.CR fRI
  mkL : Mk K c.CL fLI
  mkP : Mk K c.CP fPI
  mkS : Mk K c.CS fSI
  dRI : Df K "__init__" "Remainder.__init__" sRI fRI
  dLI : Df K "__init__" "LastDigit.__init__" sLI fLI
  dPI : Df K "__init__" "Pairing.__init__" sPI fPI
  dSI : Df K "__init__" "Sorter.__init__" sSI fSI
section
variable {P : Program} {w : World} {K : PySem.W.Frag} {mg : Str → Option Value} {base : Heap} {c : CC} {f fRI fLI fPI fSI : Addr}
/-! ### Sorter.modulo -/
def spSmod (c : CC) : Sp := fun vs H Q _ => ∃ m : Nat, vs = [.ref c.CS, ni m] ∧ ∀ (H' : Hp) (a : Addr), Same H H' → H a = none → LeafAt c H' a (.modu m) → Q (.ref a) H'
theorem scSmod : FnScope ["cls", "modulus"] ["cls", "modulus"] (defScope sSmod) := ⟨rfl, rfl, rfl, by decide +kernel, rfl, by decide +kernel, by decide +kernel⟩
theorem bdSmod : BindsSt "modulo" "Sorter.modulo" sSmod ["cls", "modulus"] := fun _ _ _ _ _ _ us hl => match us, hl with | [_, _], _ => rfl
theorem ok_Smod' (T : TS K mg c) (M : TM K c fRI fLI fPI fSI) {fd : FuncData} (F : Fun K "modulo" "Sorter.modulo" sSmod f fd) : FnOk P w K mg base CX0 3 f fd ["cls", "modulus"] (spSmod c) := by
  refine F.ok scSmod (fun vs H Q E h => ?_) (fun cdv A outer s H vs Q E hr h => ?_)
  · obtain ⟨_, rfl, _⟩ := h
    rfl
  · obtain ⟨m, rfl, k⟩ := h
    have G1 : FnR P w K mg base CX0 1 fRI (spRI c) := ok_RI T M.dRI
    have G2 : FnR P w K mg base CX0 1 fSI (spSI c) := ok_SI T M.dSI
    refine ⟨_, pss_one (ps_ret (pe_makeV (i := 0) M.mkS G2 hr rfl (.inl rfl) pass0 (pa_cons (pv 1) (pa_cons (StX.pe_makeR M.mkR G1 hr rfl T.mgR pass0 (pa_cons (pv 1) pa_nil)) pa_nil)))), ?_⟩
    refine ⟨rfl, _, rfl, _, rfl, fun r dr nr ndr ne => ⟨r, dr, m, rfl, upd_same, rfl, ?_⟩⟩
    intro a da na nda nea
    rw [upd_upd] at na nda ⊢
    have s1 : Same H (upd (upd H dr (.own r)) r (.ins c.CR dr (fR m))) := same_made nr ndr
    refine ⟨a, da, r, m, rfl, upd_same, rfl, ?_⟩
    rw [upd_upd]
    have s2 := same_made (C := c.CS) (fs := fS m r) na nda
    exact k _ a (s1.trans s2) (s1.free na) ⟨da, r, upd_same, dr, s2 _ _ upd_same⟩
theorem ok_Smod (T : TS K mg c) (M : TM K c fRI fLI fPI fSI) (D : Df K "modulo" "Sorter.modulo" sSmod f) : FnR P w K mg base CX0 3 f (spSmod c) := by
  obtain ⟨fd, F⟩ := D
  refine ((ok_Smod' T M F).raw (F.binds bdSmod) .nil).imp fun vs H Q E h => ?_
  rw [List.append_nil]; exact h
def spSmodW (c : CC) : SpW := fun vs zs H Q _ => ∃ m : Nat, vs = [.ref c.CS] ∧ zs = [ni m] ∧ ∀ (H' : Hp) (a : Addr), Same H H' → H a = none → LeafAt c H' a (.modu m) → Q (.ref a) H'
theorem ok_SmodW (T : TS K mg c) (M : TM K c fRI fLI fPI fSI) (D : Df K "modulo" "Sorter.modulo" sSmod f) : FnW P w K mg base CX0 3 f ["modulus"] (spSmodW c) := by
  obtain ⟨fd, F⟩ := D
  have kb : KBn K fd ["cls", "modulus"] 1 ["modulus"] (fun us ws => us ++ ws) (fun vs zs => vs ++ zs) := by
    refine ⟨fun s us ws _ h1 h2 => ?_, fun r1 r2 => r1.append r2⟩
    obtain ⟨oc, od, kV, doc, pm, an, cdv, ct, osl, rfl, lk, hcd⟩ := F.ex
    match us, ws, h1, h2 with
    | [_], [_], _, _ => exact .of_eq rfl
  have q : FnW P w K mg base CX0 3 f ["modulus"] _ := FnW.of (ok_Smod' (P := P) (w := w) (mg := mg) (base := base) T M F) kb
  intro A outer s H us ws vs zs Q E hr e0 r rz h
  obtain ⟨m, rfl, rfl, k⟩ := h
  exact q A outer s H us ws _ _ Q E hr e0 r rz ⟨rfl, rfl, m, rfl, k⟩

/-! ### Sorter.digits -/
def spSdig (c : CC) : Sp := fun vs H Q _ => ∃ (p : Nat) (a : Int), vs = [.ref c.CS, ni p, .int a] ∧ ∀ (H' : Hp) (x : Addr), Same H H' → H x = none → LeafAt c H' x (.digs p a) → Q (.ref x) H'
theorem scSdig : FnScope ["cls", "prime", "after"] ["cls", "prime", "after"] (defScope sSdig) := ⟨rfl, rfl, rfl, by decide +kernel, rfl, by decide +kernel, by decide +kernel⟩
abbrev DigD (K : PySem.W.Frag) (f : Addr) (fd : FuncData) : Prop := FunD K "digits" "Sorter.digits" (defArgs sSdig) (defBody sSdig) (defScope sSdig) [] [("after", .int 0)] f fd
theorem ok_Sdig (T : TS K mg c) (M : TM K c fRI fLI fPI fSI) {fd : FuncData} (F : DigD K f fd) : FnOk P w K mg base CX0 3 f fd ["cls", "prime", "after"] (spSdig c) := by
  refine F.ok scSdig (fun vs H Q E h => ?_) (fun cdv A outer s H vs Q E hr h => ?_)
  · obtain ⟨_, _, rfl, _⟩ := h
    rfl
  · obtain ⟨p, a, rfl, k⟩ := h
    have G1 : FnR P w K mg base CX0 1 fLI (spLI c) := ok_LI T M.dLI
    have G2 : FnR P w K mg base CX0 1 fSI (spSI c) := ok_SI T M.dSI
    refine ⟨_, PSs.nox (pss_one (ps_ret (pe_makeV (i := 0) M.mkS G2 hr rfl (.inl rfl) pass0 (pa_cons (pe_op op_sub (pe_op op_add (pe_callB (call_max2 rfl) (by rfl) T.max (by decide +kernel) (pa_cons (pv 2) (pa_cons pe_int pa_nil))) (pv 1)) pe_int)
      (pa_cons (StX.pe_makeR M.mkL G1 hr rfl T.mgL pass0 (pa_cons (pv 1) (pa_cons (pv 2) pa_nil))) pa_nil))))), ?_⟩
    refine ⟨rfl, _, rfl, _, _, rfl, _, rfl, _, _, rfl, rfl, _, _, rfl, rfl, _, rfl, _, rfl, fun r dr nr ndr ne => ⟨r, dr, p, a, rfl, upd_same, rfl, ?_⟩⟩
    intro x dx nx ndx nex
    rw [upd_upd] at nx ndx ⊢
    have s1 : Same H (upd (upd H dr (.own r)) r (.ins c.CL dr (fL p a))) := same_made nr ndr
    refine ⟨x, dx, r, _, rfl, upd_same, rfl, ?_⟩
    rw [upd_upd]
    have s2 := same_made (C := c.CS) (fs := fS (Lf.boxes (.digs p a)) r) nx ndx
    exact k _ x (s1.trans s2) (s1.free nx) ⟨dx, r, upd_same, dr, s2 _ _ upd_same⟩
def spSdigW1 (c : CC) : SpW := fun vs zs H Q _ => ∃ p : Nat, vs = [.ref c.CS] ∧ zs = [ni p] ∧ ∀ (H' : Hp) (x : Addr), Same H H' → H x = none → LeafAt c H' x (.digs p 0) → Q (.ref x) H'
def spSdigW2 (c : CC) : SpW := fun vs zs H Q _ => ∃ (p : Nat) (a : Int), vs = [.ref c.CS, ni p] ∧ zs = [.int a] ∧ ∀ (H' : Hp) (x : Addr), Same H H' → H x = none → LeafAt c H' x (.digs p a) → Q (.ref x) H'
theorem ok_SdigW1 (T : TS K mg c) (M : TM K c fRI fLI fPI fSI) {fd : FuncData} (F : DigD K f fd) : FnW P w K mg base CX0 3 f ["prime"] (spSdigW1 c) := by
  obtain ⟨mv, kb⟩ := F.kbinds0 (ps := ["cls", "prime", "after"]) 1 ["prime"] [("after", .int 0)] (fun us mv ws => us ++ (ws ++ mv)) (by decide) (fun q h => h) (fun r1 r2 r3 => r1.append (r3.append r2)) (fun D doc pm an cdv ct us mv ws h1 h2 h3 => by
    match us, mv, ws, h1, h2, h3 with
    | [_], [_], [_], _, _, _ => exact ⟨_, _, _, _, _, _, rfl, rfl, rfl⟩)
  have q := FnW.of (ok_Sdig (P := P) (w := w) (mg := mg) (base := base) T M F) kb
  intro A outer s H us ws vs zs Q E hr e0 r rz h
  obtain ⟨p, rfl, rfl, k⟩ := h
  exact q A outer s H us ws _ _ Q E hr e0 r rz ⟨rfl, rfl, p, 0, rfl, k⟩
theorem ok_SdigW2 (T : TS K mg c) (M : TM K c fRI fLI fPI fSI) {fd : FuncData} (F : DigD K f fd) : FnW P w K mg base CX0 3 f ["after"] (spSdigW2 c) := by
  obtain ⟨mv, kb⟩ := F.kbinds0 (ps := ["cls", "prime", "after"]) 2 ["after"] [] (fun us mv ws => us ++ (ws ++ mv)) (by decide) (fun q h => nomatch h) (fun r1 r2 r3 => r1.append (r3.append r2)) (fun D doc pm an cdv ct us mv ws h1 h2 h3 => by
    match us, mv, ws, h1, h2, h3 with
    | [_, _], [], [_], _, _, _ => exact rfl)
  have q := FnW.of (ok_Sdig (P := P) (w := w) (mg := mg) (base := base) T M F) kb
  intro A outer s H us ws vs zs Q E hr e0 r rz h
  obtain ⟨p, a, rfl, rfl, k⟩ := h
  exact q A outer s H us ws _ _ Q E hr e0 r rz ⟨rfl, rfl, p, a, rfl, k⟩

/-! ### Sorter.__mul__ -/
def spSmul (c : CC) : Sp := fun vs H Q _ => ∃ (x y : Addr) (g h : Lf), vs = [.ref x, .ref y] ∧ LeafAt c H x g ∧ LeafAt c H y h ∧ g.ok ∧ h.ok ∧ ∀ (H' : Hp) (a : Addr), Same H H' → H a = none → SrAt c H' a (.pair g h) → Q (.ref a) H'
theorem scSmul : FnScope ["self", "other"] ["self", "other"] (defScope sSmul) := ⟨rfl, rfl, rfl, by decide +kernel, rfl, by decide +kernel, by decide +kernel⟩
theorem bdSmul : BindsSt "__mul__" "Sorter.__mul__" sSmul ["self", "other"] := fun _ _ _ _ _ _ us hl => match us, hl with | [_, _], _ => rfl
theorem ok_Smul (T : TS K mg c) (M : TM K c fRI fLI fPI fSI) (D : Df K "__mul__" "Sorter.__mul__" sSmul f) : FnR P w K mg base CX0 3 f (spSmul c) := by
  refine D.okR scSmul bdSmul (fun vs H Q E h => ?_) (fun cdv A outer s H vs Q E hr h => ?_)
  · obtain ⟨_, _, _, _, rfl, _⟩ := h
    rfl
  · obtain ⟨x, y, g, h, rfl, hx, hy, og, oh, k⟩ := h
    have G1 : FnR P w K mg base CX0 1 fPI (spPI c) := ok_PI T M.dPI
    have G2 : FnR P w K mg base CX0 1 fSI (spSI c) := ok_SI T M.dSI
    obtain ⟨dx, rx, ex, ex'⟩ := id hx
    obtain ⟨dy, ry, ey, ey'⟩ := id hy
    obtain ⟨b1, b2⟩ := boxes_small og
    refine ⟨_, pss_one (ps_ret (StX.pe_makeR M.mkS G2 hr rfl T.mgS pass0 (pa_cons (pe_op op_mul (pe_fld (pv 0) rfl) (pe_fld (pv 1) rfl)) (pa_cons (StX.pe_makeR M.mkP G1 hr rfl T.mgP pass0 (pa_cons (pv 0) (pa_cons (pv 1) pa_nil))) pa_nil)))), ?_⟩
    refine ⟨_, rfl, x, c.CS, dx, _, _, rfl, ex, T.clS, T.nSb, lk1 _ _ _, _, rfl, y, c.CS, dy, _, _, rfl, ey, T.clS, T.nSb, lk1 _ _ _, _, _, rfl, rfl, .inl ⟨by omega, by omega⟩, _, rfl, _, rfl, fun r dr nr ndr ne => ⟨r, dr, x, y, rfl, upd_same, rfl, ?_⟩⟩
    intro a da na nda nea
    rw [upd_upd] at na nda ⊢
    have s1 : Same H (upd (upd H dr (.own r)) r (.ins c.CP dr (fP x y))) := same_made nr ndr
    refine ⟨a, da, r, _, rfl, upd_same, rfl, ?_⟩
    rw [upd_upd]
    have s2 := same_made (C := c.CS) (fs := fS (g.boxes * h.boxes) r) na nda
    exact k _ a (s1.trans s2) (s1.free na) ⟨da, r, dr, x, y, upd_same, s2 _ _ upd_same, hx.keep (Kp.of (s1.trans s2)), hy.keep (Kp.of (s1.trans s2))⟩
end
end Wb

set_option Elab.async false
set_option linter.all false
set_option maxRecDepth 100000
set_option maxHeartbeats 4000000
namespace Wb
open PySem PySem.Spec PyProof.Rows L2
/-- Sorter's classmethods -/
structure TC (K : PySem.W.Frag) (mg : Str → Option Value) (c : CC) (pm fm pd fdg : Addr) (mc : Value) : Prop where
  rd : ClX.CRead K c.CS mc
  mo : ClX.CMet K c.CS mc "modulo" pm fm
  di : ClX.CMet K c.CS mc "digits" pd fdg
  dm : Df K "modulo" "Sorter.modulo" sSmod fm
  dd : ∃ fd, DigD K fdg fd
  kMO : ∃ t, mg "MODULO" = some (.str "modulo" t)
  kDI : ∃ t, mg "DIGITS" = some (.str "digits" t)
structure TU (K : PySem.W.Frag) (c : CC) (fmul : Addr) : Prop where
  first : PySem.W.selfFirst K c.CS = true
  at_ : PySem.W.findIn K (.ref c.CS) (PySem.dunder "mul") = some (some (.ref fmul))
  fn : PySem.W.isFn K (.ref fmul) = true
  d : Df K "__mul__" "Sorter.__mul__" sSmul fmul
inductive Vd where
  | md (m : Nat) | dg (a : Int) (p : Nat) | nv
def Vd.xs : Vd → List V
  | .md m => [.str "modulo", ni m]
  | .dg a p => [.str "digits", .int a, ni p]
  | .nv => [.str "never", .str "x", .str "y"]
def Vd.lf : Vd → Lf
  | .md m => .modu m
  | .dg a p => .digs p a
  | .nv => .modu 1
theorem dm_ : ¬ (("digits" : Str) = "modulo") := by decide +kernel
theorem nm_ : ¬ (("never" : Str) = "modulo") := by decide +kernel
theorem nd_ : ¬ (("never" : Str) = "digits") := by decide +kernel
section
variable {P : Program} {w : World} {K : PySem.W.Frag} {mg : Str → Option Value} {base : Heap} {c : CC} {f fRI fLI fPI fSI pm fm pd fdg fmul : Addr} {mc : Value}
/-! ### barring_one -/
def spB1 (c : CC) : Sp := fun vs H Q _ => ∃ (t : Addr) (v : Vd), vs = [.ref t] ∧ H t = some (.tup v.xs) ∧ ∀ (H' : Hp) (a : Addr), Same H H' → H a = none → LeafAt c H' a v.lf → Q (.ref a) H'
theorem scB1 : FnScope ["thing"] ["thing"] (defScope sB1) := ⟨rfl, rfl, rfl, by decide +kernel, rfl, by decide +kernel, by decide +kernel⟩
theorem bdB1 : BindsSt "barring_one" "barring_one" sB1 ["thing"] := fun _ _ _ _ _ _ us hl => match us, hl with | [_], _ => rfl
theorem ok_B1 (T : TS K mg c) (M : TM K c fRI fLI fPI fSI) (C : TC K mg c pm fm pd fdg mc) (D : Df K "barring_one" "barring_one" sB1 f) : FnR P w K mg base CX0 4 f (spB1 c) := by
  refine D.okR scB1 bdB1 (fun vs H Q E h => ?_) (fun cdv A outer s H vs Q E hr h => ?_)
  · obtain ⟨_, _, rfl, _⟩ := h
    rfl
  · obtain ⟨t, v, rfl, ht, k⟩ := h
    obtain ⟨fd, Fd⟩ := C.dd
    have G1 : FnR P w K mg base CX0 3 fm (spSmod c) := ok_Smod T M C.dm
    have G2 : FnW P w K mg base CX0 3 fdg ["after"] (spSdigW2 c) := ok_SdigW2 T M Fd
    obtain ⟨t1, k1⟩ := C.kMO
    obtain ⟨t2, k2⟩ := C.kDI
    refine ⟨_, pss_cons (ps_if (pt_cmpR op_eq (pe_ix ix_tup (pv 0) pe_int (fun _ _ => rfl)) (pe_glob (v := .str "modulo") rfl k1 ⟨_, rfl⟩) (nomark _))
        (pss_one (ps_ret (ClX.pe_cmeth (pe_glob (v := .ref c.CS) rfl T.mgS rfl) C.rd C.mo G1 hr pass0 (pa_cons (pe_ix ix_tup (pv 0) pe_int (fun _ _ => rfl)) pa_nil)))) pss_nil)
      (pss_cons (ps_if (pt_cmpR op_eq (pe_ix ix_tup (pv 0) pe_int (fun _ _ => rfl)) (pe_glob (v := .str "digits") rfl k2 ⟨_, rfl⟩) (nomark _))
        (pss_one (ps_ret (pe_cmethW (pe_glob (v := .ref c.CS) rfl T.mgS rfl) C.rd C.di G2 hr pass0 (pa_cons (pe_ix ix_tup (pv 0) pe_int (fun _ _ => rfl)) pa_nil) (pk_cons (pe_ix ix_tup (pv 0) pe_int (fun _ _ => rfl)) pk_nil)))) pss_nil)
      (pss_one (ps_ret (ClX.pe_cmeth (pe_glob (v := .ref c.CS) rfl T.mgS rfl) C.rd C.mo G1 hr pass0 (pa_cons pe_int pa_nil))))), ?_⟩
    cases v with
    | md m =>
      refine ⟨_, rfl, t, _, _, _, rfl, rfl, SqT.of ht, atI_nat (j := 0) rfl, rfl, _, rfl, ?_⟩
      refine iteT ?_
      exact ⟨rfl, _, rfl, t, _, _, _, rfl, rfl, SqT.of ht, atI_nat (j := 1) rfl, m, rfl, fun H' a s n l => k H' a s n l⟩
    | dg a p =>
      refine ⟨_, rfl, t, _, _, _, rfl, rfl, SqT.of ht, atI_nat (j := 0) rfl, rfl, _, rfl, ?_⟩
      rw [decide_eq_false (fun z => dm_ (V.str.inj z))]
      refine iteF ?_
      refine ⟨_, rfl, t, _, _, _, rfl, rfl, SqT.of ht, atI_nat (j := 0) rfl, rfl, _, rfl, ?_⟩
      refine iteT ?_
      exact ⟨rfl, _, rfl, t, _, _, _, rfl, rfl, SqT.of ht, atI_nat (j := 2) rfl, _, rfl, t, _, _, _, rfl, rfl, SqT.of ht, atI_nat (j := 1) rfl, p, a, rfl, rfl, fun H' x s n l => k H' x s n l⟩
    | nv =>
      refine ⟨_, rfl, t, _, _, _, rfl, rfl, SqT.of ht, atI_nat (j := 0) rfl, rfl, _, rfl, ?_⟩
      rw [decide_eq_false (fun z => nm_ (V.str.inj z))]
      refine iteF ?_
      refine ⟨_, rfl, t, _, _, _, rfl, rfl, SqT.of ht, atI_nat (j := 0) rfl, rfl, _, rfl, ?_⟩
      rw [decide_eq_false (fun z => nd_ (V.str.inj z))]
      refine iteF ?_
      exact ⟨rfl, 1, rfl, fun H' a s n l => k H' a s n l⟩

/-! ### barring, of two verdicts -/
def spBar (c : CC) : Sp := fun vs H Q _ => ∃ (t u : Addr) (v v' : Vd), vs = [.ref t, .ref u] ∧ H t = some (.tup v.xs) ∧ H u = some (.tup v'.xs) ∧ v.lf.ok ∧ v'.lf.ok ∧ ∀ (H' : Hp) (a : Addr), Same H H' → H a = none → SrAt c H' a (.pair v.lf v'.lf) → Q (.ref a) H'
def spBarIn (c : CC) : Sp := fun vs H Q _ => ∃ (q t u : Addr) (v v' : Vd), vs = [.ref q] ∧ H q = some (.tup [.ref t, .ref u]) ∧ H t = some (.tup v.xs) ∧ H u = some (.tup v'.xs) ∧ v.lf.ok ∧ v'.lf.ok ∧ ∀ (H' : Hp) (a : Addr), Same H H' → H a = none → SrAt c H' a (.pair v.lf v'.lf) → Q (.ref a) H'
theorem scBar : FnScope ["things", "found", "thing"] ["things"] (defScope sBar) := ⟨rfl, rfl, rfl, by decide +kernel, rfl, by decide +kernel, by decide +kernel⟩
theorem ok_Bar (T : TS K mg c) (M : TM K c fRI fLI fPI fSI) (C : TC K mg c pm fm pd fdg mc) (U : TU K c fmul) {f1 : Addr} (D1 : Df K "barring_one" "barring_one" sB1 f1) (m1 : mg "barring_one" = some (.ref f1)) (D : Df K "barring" "barring" sBar f) : FnR P w K mg base CX0 5 f (spBar c) := by
  obtain ⟨fd, F⟩ := D
  obtain ⟨oc, od, kV, doc, pmv, an, cdv, ct, osl, rfl, lk, hcd⟩ := F.ex
  have q : FnR P w K mg base CX0 5 f _ := StX.fn_star (CX := CX0) (P := P) (w := w) (mg := mg) (base := base) (k := 4) (ps := []) (pv := "things") (sp := spBarIn c) lk hcd scBar StX.cxUp_none (fun us rest hl => by
    match us, hl with
    | [], _ => cases rest <;> rfl) ?_
  · intro A outer s H us vs Q E hr e0 r h
    obtain ⟨t, u, v, v', rfl, h1, h2, o1, o2, k⟩ := h
    refine q A outer s H us _ Q E hr e0 r ⟨[], _, rfl, rfl, (by show 2 ≤ sizeLine; rw [sizeLine_eq]; decide), fun p hp => ?_⟩
    have s0 : Same H (upd H p (.tup [.ref t, .ref u])) := same_upd hp
    exact ⟨p, t, u, v, v', rfl, upd_same, s0 _ _ h1, s0 _ _ h2, o1, o2, fun H' a s1 n l => k H' a (s0.trans s1) (s0.free n) l⟩
  · intro A outer s H vs Q E hr h
    obtain ⟨q, t, u, v, v', rfl, hq, ht, hu, o1, o2, k⟩ := h
    have G1 : FnR P w K mg base CX0 4 f1 (spB1 c) := ok_B1 T M C D1
    have G2 : FnR P w K mg base CX0 4 fmul (spSmul c) := (ok_Smul T M U.d).mono (by decide)
    refine ⟨_, PSs.nox (pss_cons (ps_set (i := 1) scBar.nd rfl (.inl rfl) (pe_callR G1 hr rfl m1 D1.kp (pa_cons (pe_ix ix_tup (pv 0) pe_int (fun _ _ => rfl)) pa_nil)))
      (pss_cons (ps_for PassesOwn.never rfl (pi_tup (pe_slice sl_tup (pv 0) (po_some pe_int) po_none)) (pg_name (i := 2) scBar.nd rfl (.inl rfl))
        (pss_one (ps_set (i := 1) scBar.nd rfl (.inl rfl) (pe_op (op_own_mul U.first U.at_ U.fn G2 hr pass0) (pv 1) (pe_callR G1 hr rfl m1 D1.kp (pa_cons (pv 2) pa_nil))))))
      (pss_one (ps_ret (pv 1))))), ?_⟩
    refine ⟨_, rfl, q, _, _, _, rfl, rfl, SqT.of hq, atI_nat (j := 0) rfl, t, v, rfl, ht, fun H1 a s1 na l1 => ?_⟩
    refine ⟨_, rfl, 1, rfl, q, _, rfl, SqT.of (s1 _ _ hq), (by show ¬ (HT.sIx 2 0 (some 1) = 0 ∧ HT.sIx 2 2 none = 2); decide), fun p np => ⟨p, rfl, ⟨_, SqT.of upd_same⟩, ?_⟩⟩
    have s2 : Same H1 (upd H1 p (.tup (cutV [V.ref t, .ref u] (some 1) none))) := same_upd np
    refine for_tup (K := K) (a := p) (xs := [V.ref u]) (fun i sg H' => Same (upd H1 p (.tup [V.ref u])) H' ∧ ∃ (x : Addr) (y : Option V), sg = [some (.ref q), some (.ref x), y] ∧ H x = none ∧ ((i = 0 ∧ LeafAt c H' x v.lf) ∨ (i = 1 ∧ SrAt c H' x (.pair v.lf v'.lf))))
      ⟨Same.refl _, a, none, rfl, na, .inl ⟨rfl, l1.keep (Kp.of s2)⟩⟩ (fun i sg H' _ h => SqT.of (h.1 _ _ upd_same)) ?_ ?_
    · rintro i x sg H' hi ⟨s3, a1, y, rfl, na1, h⟩
      have hi0 : i = 0 := by
        have := (List.getElem?_eq_some_iff.mp hi).1
        simp at this
        exact this
      subst hi0
      obtain rfl : V.ref u = x := by simpa using hi
      rcases h with ⟨_, l2⟩ | ⟨z, _⟩
      · have s4 : Same H H' := (s1.trans s2).trans s3
        refine ⟨_, rfl, _, rfl, u, v', rfl, s4 _ _ hu, fun H2 b s5 nb l3 => ?_⟩
        obtain ⟨da, ra, ea, _⟩ := id (l2.keep (Kp.of s5))
        obtain ⟨db, rb, eb, _⟩ := id l3
        refine ⟨a1, b, da, db, _, _, rfl, rfl, ea, eb, a1, b, _, _, rfl, l2.keep (Kp.of s5), l3, o1, o2, fun H3 d s6 nd l4 => ⟨⟨d, rfl⟩, ?_⟩⟩
        exact ⟨s3.trans (s5.trans s6), d, _, rfl, (s4.trans s5).free nd, .inr ⟨rfl, l4⟩⟩
      · cases z
    · rintro sg H' ⟨s3, a1, y, rfl, na1, h⟩
      rcases h with ⟨z, _⟩ | ⟨_, l2⟩
      · cases z
      · exact ⟨_, rfl, k H' a1 ((s1.trans s2).trans s3) na1 l2⟩
end
end Wb

set_option Elab.async false
set_option linter.all false
set_option maxRecDepth 100000
set_option maxHeartbeats 4000000
namespace Wb
open PySem PySem.Spec PyProof.Rows L2
/-! ### walks, whatever a turn is -/
section
variable {J : It} {n : Nat} {G : Hp → Prop} {Y : Nat → Hp → V → Hp → Prop} {H1 : Hp} {Qd : Hp → Prop} {B : V → Hp → (Hp → Prop) → Prop}
/-- a walk of n turns, each told by B: Pv holds ahead of turn i -/
theorem wk_it (w : Walk J n G Y) (Pv : Nat → Hp → Prop) (h0 : Pv 0 H1) (hG : ∀ i H, i ≤ n → Pv i H → G H) (hs : ∀ i x H H', i < n → Pv i H → Y i H x H' → B x H' (Pv (i + 1))) (hd : ∀ H, Pv n H → Qd H) :
    ∃ W : Nat → Nat → Hp → Prop, (∃ m, W 0 m H1) ∧ ∀ i m H, W i m H → (J.stop i H ∧ Qd H) ∨ (J.go i H ∧ ∃ Nx : Hp → Prop, (∀ H', Nx H' → ∃ m', m' < m ∧ W (i + 1) m' H') ∧ ∀ x H', J.yld i H x H' → B x H' Nx) := by
  refine ⟨fun i m H => i + m = n ∧ Pv i H, ⟨n, Nat.zero_add n, h0⟩, fun i m H hW => ?_⟩
  cases m with
  | zero =>
    have hin : i = n := by have := hW.1; omega
    rw [hin] at hW ⊢
    exact .inl ⟨w.stops H (hG n H (Nat.le_refl n) hW.2), hd H hW.2⟩
  | succ m =>
    have hin : i < n := by have := hW.1; omega
    have hg := hG i H (Nat.le_of_lt hin) hW.2
    exact .inr ⟨w.goes i H hin hg, Pv (i + 1), fun H' hP => ⟨m, Nat.lt_succ_self m, by have := hW.1; omega, hP⟩, fun x H' hy => hs i x H H' hin hW.2 (w.yields i H x H' hin hg hy)⟩
end
section
variable {K : PySem.W.Frag} {a : Addr} {xs : List V} {H1 : Hp} {Qd : Hp → Prop} {B : V → Hp → (Hp → Prop) → Prop}
theorem wk_list (Pv : Nat → Hp → Prop) (h0 : Pv 0 H1) (hl : ∀ i H, i ≤ xs.length → Pv i H → SqL K H a xs)
    (hs : ∀ i x H, xs[i]? = some x → Pv i H → B x H (Pv (i + 1))) (hd : ∀ H, Pv xs.length H → Qd H) :
    ∃ W : Nat → Nat → Hp → Prop, (∃ m, W 0 m H1) ∧ ∀ i m H, W i m H → ((Itl K a).stop i H ∧ Qd H) ∨ ((Itl K a).go i H ∧ ∃ Nx : Hp → Prop, (∀ H', Nx H' → ∃ m', m' < m ∧ W (i + 1) m' H') ∧ ∀ x H', (Itl K a).yld i H x H' → B x H' Nx) :=
  wk_it L2.walk_list Pv h0 hl (fun i x H H' _ hP hY => by rw [hY.1]; exact hs i x H hY.2 hP) hd
theorem wk_tup (Pv : Nat → Hp → Prop) (h0 : Pv 0 H1) (hl : ∀ i H, i ≤ xs.length → Pv i H → SqT K H a xs)
    (hs : ∀ i x H, xs[i]? = some x → Pv i H → B x H (Pv (i + 1))) (hd : ∀ H, Pv xs.length H → Qd H) :
    ∃ W : Nat → Nat → Hp → Prop, (∃ m, W 0 m H1) ∧ ∀ i m H, W i m H → ((Itt K a).stop i H ∧ Qd H) ∨ ((Itt K a).go i H ∧ ∃ Nx : Hp → Prop, (∀ H', Nx H' → ∃ m', m' < m ∧ W (i + 1) m' H') ∧ ∀ x H', (Itt K a).yld i H x H' → B x H' Nx) :=
  wk_it L2.walk_tup Pv h0 hl (fun i x H H' _ hP hY => by rw [hY.1]; exact hs i x H hY.2 hP) hd
end
/-- built-ins by name -/
structure TB (mg : Str → Option Value) : Prop where
  len : mg "len" = none
  sorted : mg "sorted" = none
  range : mg "range" = none
  tuple : mg "tuple" = none
  zip : mg "zip" = none
  list : mg "list" = none
  int : mg "int" = none
  repr : mg "repr" = none
  max : mg "max" = none
theorem inV_ni (x : Nat) (l : List Nat) : inV (ni x) (l.map ni) = decide (x ∈ l) := by
  unfold inV
  induction l with
  | nil => simp
  | cons y l ih =>
    rw [List.map_cons, List.any_cons, ih]
    have e : eqV (ni y) (ni x) = decide (x = y) := by
      show decide ((y : Int) = (x : Int)) = _
      by_cases h : x = y
      · subst h; simp
      · rw [decide_eq_false h, decide_eq_false (by omega)]
    rw [e]
    simp [List.mem_cons]
theorem flat_ni (l : List Nat) : (l.map ni).all flatV = true := by
  induction l with
  | nil => rfl
  | cons y l ih => rw [List.map_cons, List.all_cons, ih]; rfl
theorem int_ni (l : List Nat) : (l.map fun x : Nat => (x : Int)).map V.int = l.map ni := by
  rw [List.map_map]; rfl
/-! rules told of K outright, for use within comprehensions -/
section
variable {X : Cx} {K : PySem.W.Frag} {pos : Pos} {a b l tg : Expr} {ta tb tl : TE}
theorem pe_ixT (e : X.K = K) (ha : PE X a ta) (hb : PE X b tb) (hs : PlainIx b) : PE X (.Subscript a b pos) (tOp (rIxT K) ta tb) := by subst e; exact pe_ix ix_tup ha hb hs
theorem pe_ixL (e : X.K = K) (ha : PE X a ta) (hb : PE X b tb) (hs : PlainIx b) : PE X (.Subscript a b pos) (tOp (rIxL K) ta tb) := by subst e; exact pe_ix ix_list ha hb hs
theorem pi_listK (e : X.K = K) (hl : PE X l tl) : PI X tg l (iList K tl) := by subst e; exact pi_list hl
theorem pi_tupK (e : X.K = K) (hl : PE X l tl) : PI X tg l (iTup K tl) := by subst e; exact pi_tup hl
theorem pe_fldK {fx : Str} {o : Expr} {tv : TE} (e : X.K = K) (he : PE X o tv) (hb : attributeBase o fx X.env (eval o X.env) = eval o X.env) : PE X (.Attribute o fx pos) (tFld K tv fx) := by subst e; exact pe_fld he hb
theorem pg_tupK {es : List Expr} {k : Nat} {t : TGs} {n : Nat} (e : X.K = K) (hc : X.calm = true) (h : PGs X es t) (hn : (assignEach es X.env).length = n := by rfl) (hst : (assignEach es X.env).findIdx? (·.1) = none := by rfl) : PG X (.Tuple es k pos) (gTup K n t) := by subst e; exact pg_tup hc h hn hst
theorem op_notInK (e : X.K = K) : OpR X (compareOp .NotIn) (rIn K true) := by subst e; exact op_notIn_seq
end
theorem news_take {found bs : List Nat} {i : Nat} (h : i < bs.length) : news found (bs.take (i + 1)) = news found (bs.take i) ++ (if bs[i] ∈ found then [] else [bs[i]]) := by
  unfold news
  rw [List.take_succ_eq_append_getElem h, List.filter_append]
  by_cases z : bs[i] ∈ found <;> simp [z]
theorem back_ni {F : List Nat} {ns : List Int} (p : ns.Perm (F.map fun x : Nat => (x : Int))) : ∃ G : List Nat, ns.map V.int = G.map ni ∧ (∀ x, x ∈ G ↔ x ∈ F) ∧ G.length = F.length := by
  have nn : ∀ z, z ∈ ns → ((z.toNat : Nat) : Int) = z := fun z hz => by
    obtain ⟨x, _, e⟩ := List.mem_map.mp (p.mem_iff.mp hz)
    omega
  refine ⟨ns.map Int.toNat, ?_, fun x => ?_, ?_⟩
  · rw [List.map_map]
    refine List.map_congr_left fun z hz => ?_
    show V.int z = V.int ((z.toNat : Nat) : Int)
    rw [nn z hz]
  · constructor
    · intro hx
      obtain ⟨z, hz, rfl⟩ := List.mem_map.mp hx
      obtain ⟨y, hy, e⟩ := List.mem_map.mp (p.mem_iff.mp hz)
      have : y = z.toNat := by omega
      exact this ▸ hy
    · intro hx
      exact List.mem_map.mpr ⟨(x : Int), p.mem_iff.mpr (List.mem_map.mpr ⟨x, hx, rfl⟩), by simp⟩
  · rw [List.length_map, p.length_eq, List.length_map]
theorem small_line {n : Nat} (h : n ≤ 100000) : n ≤ sizeLine := by rw [sizeLine_eq]; omega
theorem small_line' {n : Nat} (h : n < 100000) : n < sizeLine := by rw [sizeLine_eq]; omega
section
variable {P : Program} {w : World} {K : PySem.W.Frag} {mg : Str → Option Value} {base : Heap} {f : Addr}
/-! ### reached_states -/
def RchW (t : Addr) (b : Nat) (S : List (List Nat)) (H : Hp) (m : Nat) (sg : L2.St) (H' : Hp) : Prop := ∃ (found fresh : List Nat) (fa ra : Addr) (bh : Option V), m = rmeas S.length found fresh ∧ RInv b S found fresh ∧ Same H H' ∧
  H' fa = some (.lst (found.map ni)) ∧ H' ra = some (.lst (fresh.map ni)) ∧ sg = [some (.ref t), some (.ref fa), some (.ref ra), bh, none, none]
def spRch : Sp := fun vs H Q _ => ∃ (t : Addr) (b : Nat) (S : List (List Nat)), vs = [.ref t] ∧ RowsAt H t S ∧ Tab b S ∧ ∀ (H' : Hp) (p : Addr) (F : List Nat), Same H H' → H' p = some (.lst (F.map ni)) → Closed S b F → F.length ≤ S.length → Q (.ref p) H'
abbrev nRch : List Str := ["steps", "found", "fresh", "behind", "state", "after"]
theorem scRch : FnScope nRch ["steps"] (defScope sRch) := ⟨rfl, rfl, rfl, by decide +kernel, rfl, by decide +kernel, by decide +kernel⟩
theorem bdRch : BindsSt "reached_states" "reached_states" sRch ["steps"] := fun _ _ _ _ _ _ us hl => match us, hl with | [_], _ => rfl
theorem ok_Rch (B : TB mg) (D : Df K "reached_states" "reached_states" sRch f) : FnR P w K mg base CX0 1 f spRch := by
  refine D.okR scRch bdRch (fun vs H Q E h => ?_) (fun cdv A outer s H vs Q E hr h => ?_)
  · obtain ⟨_, _, _, rfl, _⟩ := h
    rfl
  · obtain ⟨t, b, S, rfl, ⟨rs, ht, hrl, hrs⟩, TT, k⟩ := h
    refine ⟨_, pss_cons (ps_asg (pe_tup (pa_cons (pe_lst (pa_cons pe_int pa_nil)) (pa_cons (pe_lst (pa_cons pe_int pa_nil)) pa_nil))) (pg_tup rfl (pgs_cons (pg_name (i := 1) scRch.nd rfl (.inr rfl)) (pgs_cons (pg_name (i := 2) scRch.nd rfl (.inl rfl)) pgs_nil))))
      (pss_cons (ps_while PassesOwn.never (pt_cmpR op_gt (pe_callB call_len_seq (by rfl) B.len PySem.boot_len (pa_cons (pv 2) pa_nil)) pe_int (nomark _))
        (pss_cons (ps_set (i := 3) scRch.nd rfl (.inl rfl) (pe_callB (cr_sortedAny rfl) (by rfl) B.sorted (by decide +kernel) (pa_cons (pe_sc2 (own := [("state", 4), ("after", 5)]) (vs1 := [5]) rfl scRch.nd (pi_list (pv 2)) (blkOk_by (N := nRch) (sc := defScope sRch) (by decide +kernel)) (by decide)
            (fun _ _ _ _ _ => pg_name (i := 4) scRch.nd rfl (.inl rfl)) (fun _ _ _ _ _ => pi_tupK (K := K) rfl (pe_ixT (K := K) rfl (pv 0) (pv 4) (fun _ _ => rfl))) (fun _ _ _ _ _ => pg_name (i := 5) scRch.nd rfl (.inl rfl)) (fun _ _ _ _ _ => pv 5)) pa_nil)))
          (pss_cons (ps_setLc (i := 2) (own := [("after", 5)]) (g := gName 5) rfl scRch.nd rfl rfl (sw_true rfl rfl rfl (by decide +kernel)) (pi_list (pv 3)) (blkOk_by (N := nRch) (sc := defScope sRch) (by decide +kernel)) (fun _ _ _ _ _ => pg_name (i := 5) scRch.nd rfl (.inl rfl)) (fun _ _ _ _ _ => pts_one (pt_cmpR (op_notInK (K := K) rfl) (pv 5) (pv 1) (by rfl))) (fun _ _ _ _ _ => pv 5))
            (pss_one (ps_set (i := 1) scRch.nd rfl (.inr rfl) (pe_op op_cat (pv 1) (pv 2)))))))
      (pss_one (ps_ret (pe_callB cr_sortedI (by rfl) B.sorted (by decide +kernel) (pa_cons (pv 1) pa_nil))))), ?_⟩
    refine ⟨small_line (Nat.le_of_ble_eq_true rfl), fun fa hfa => ⟨small_line (Nat.le_of_ble_eq_true rfl), fun ra hra => ⟨small_line (Nat.le_of_ble_eq_true rfl), fun ta hta => ⟨ta, _, rfl, SqT.of upd_same, rfl, _, _, rfl, _, _, rfl, rfl, ?_⟩⟩⟩⟩
    have s1 : Same H (upd H fa (.lst [V.int 0])) := same_upd hfa
    have s2 := same_upd (o := .lst [V.int 0]) hra
    have s3 := same_upd (o := .tup [V.ref fa, V.ref ra]) hta
    refine ⟨RchW t b S H, ⟨_, [0], [0], fa, ra, none, rfl, RInv.start TT, (s1.trans s2).trans s3, s3 _ _ (s2 _ _ upd_same), s3 _ _ upd_same, rfl⟩, ?_⟩
    clear s1 s2 s3 hta hra hfa
    rintro m sg H1 ⟨found, fresh, fa, ra, bh, rfl, R, sm, hfa, hra, rfl⟩
    have l4 := TT.lenS
    have lf := R.le
    refine ⟨_, rfl, ra, _, rfl, .inl (SqL.of hra), _, _, rfl, rfl, _, rfl, ?_⟩
    refine ite2 (fun h => ?_) (fun h => ?_)
    · have h0 : fresh ≠ [] := by
        rintro rfl
        exact absurd (of_decide_eq_true h) (by decide)
      refine ⟨fun sg' H' => ∃ m', m' < rmeas S.length found fresh ∧ RchW t b S H m' sg' H', fun sg' H' z => z, ?_⟩
      refine ⟨_, rfl, ra, rfl, ⟨_, SqL.of hra⟩, fun Dd hD => ?_⟩
      refine wk_list (K := K) (a := ra) (xs := fresh.map ni) (fun i H' => Same H1 H' ∧ ∃ St n, H' Dd = some (SetO w Dd St n) ∧ Lists S.length St n (fun x => ∃ j d, j < i ∧ d < b ∧ x = nxt S (fresh.getD j 0) d))
        ⟨same_upd hD, _, _, upd_same, Lists.nil.congr fun x => ⟨fun z => z.elim, fun ⟨j, d, z, _⟩ => absurd z (Nat.not_lt_zero _)⟩⟩ (fun i H' _ z => SqL.of (z.1 _ _ hra)) ?_ ?_
      · rintro i x H' hx ⟨sm', St, n, hSt, L⟩
        have hi : i < fresh.length := by
          have := (List.getElem?_eq_some_iff.mp hx).1
          rwa [List.length_map] at this
        rw [ni_at hi] at hx
        obtain rfl := Option.some.inj hx
        have hst : fresh.getD i 0 < S.length := R.lt _ (R.sub _ (by rw [List.getD_eq_getElem?_getD, List.getElem?_eq_getElem hi]; exact List.getElem_mem hi))
        obtain ⟨r, hr1⟩ : ∃ r, rs[fresh.getD i 0]? = some r := ⟨_, List.getElem?_eq_getElem (by rw [hrl]; exact hst)⟩
        have smT := sm.trans sm'
        refine ⟨rfl, _, rfl, _, rfl, t, _, _, .ref r, rfl, rfl, SqT.of (smT _ _ ht), atI_nat (by rw [List.getElem?_map, hr1]; rfl), r, rfl, ⟨_, SqT.of (smT _ _ (hrs _ _ hr1))⟩, ?_⟩
        refine wk_tup (K := K) (a := r) (xs := (S.getD (fresh.getD i 0) []).map ni) (fun q H' => Same H1 H' ∧ ∃ St n, H' Dd = some (SetO w Dd St n) ∧ Lists S.length St n (fun x => (∃ j d, j < i ∧ d < b ∧ x = nxt S (fresh.getD j 0) d) ∨ ∃ d, d < q ∧ x = nxt S (fresh.getD i 0) d))
          ⟨sm', St, n, hSt, L.congr fun x => ⟨.inl, fun z => z.elim id fun ⟨d, z, _⟩ => absurd z (Nat.not_lt_zero _)⟩⟩ (fun q H' _ z => SqT.of ((sm.trans z.1) _ _ (hrs _ _ hr1))) ?_ ?_
        · rintro q x H2 hx ⟨sm2, St2, n2, hSt2, L2⟩
          have hq : q < (S.getD (fresh.getD i 0) []).length := by
            have := (List.getElem?_eq_some_iff.mp hx).1
            rwa [List.length_map] at this
          rw [ni_at hq] at hx
          obtain rfl := Option.some.inj hx
          have hqb : q < b := by rw [← TT.row _ hst]; exact hq
          have le := L2.le
          refine ⟨rfl, _, rfl, (((S.getD (fresh.getD i 0) []).getD q 0 : Nat) : Int), St2, n2, rfl, hSt2, by unfold scanBound; omega, same_upd' sm2 hD, _, _, upd_same, ?_⟩
          refine (L2.add (TT.lt _ q hst hqb)).congr fun x => ?_
          constructor
          · rintro ((z | ⟨d, z1, z2⟩) | z)
            · exact .inl z
            · exact .inr ⟨d, Nat.lt_succ_of_lt z1, z2⟩
            · exact .inr ⟨q, Nat.lt_succ_self _, z⟩
          · rintro (z | ⟨d, z1, z2⟩)
            · exact .inl (.inl z)
            · rcases Nat.lt_succ_iff_lt_or_eq.mp z1 with z1 | rfl
              · exact .inl (.inr ⟨d, z1, z2⟩)
              · exact .inr z2
        · rintro H2 ⟨sm2, St2, n2, hSt2, L2⟩
          refine ⟨sm2, St2, n2, hSt2, L2.congr fun x => ?_⟩
          rw [List.length_map, TT.row _ hst]
          constructor
          · rintro (⟨j, d, z1, z2, z3⟩ | ⟨d, z1, z2⟩)
            · exact ⟨j, d, Nat.lt_succ_of_lt z1, z2, z3⟩
            · exact ⟨i, d, Nat.lt_succ_self _, z1, z2⟩
          · rintro ⟨j, d, z1, z2, z3⟩
            rcases Nat.lt_succ_iff_lt_or_eq.mp z1 with z1 | rfl
            · exact .inl ⟨j, d, z1, z2, z3⟩
            · exact .inr ⟨d, z2, z3⟩
      · rintro H2 ⟨sm2, St2, n2, hSt2, L2⟩
        refine ⟨Dd, St2, n2, rfl, hSt2, fun ns p hs hm hl hp => ?_⟩
        obtain ⟨bs, rfl, nd, hbs⟩ := L2.sorted hs hm
        have hbs' : ∀ x, x ∈ bs ↔ Succs b S fresh x := fun x => by
          rw [hbs x, List.length_map]
          constructor
          · rintro ⟨j, d, z1, z2, z3⟩
            refine ⟨_, d, ?_, z2, z3⟩
            rw [List.getD_eq_getElem?_getD, List.getElem?_eq_getElem z1]; exact List.getElem_mem z1
          · rintro ⟨s, d, z1, z2, z3⟩
            obtain ⟨j, hj, rfl⟩ := List.mem_iff_getElem.mp z1
            refine ⟨j, d, hj, z2, ?_⟩
            rw [List.getD_eq_getElem?_getD, List.getElem?_eq_getElem hj]; exact z3
        have R' := R.step TT nd hbs'
        have hlt := rmeas_lt h0 R'
        have s3 : Same H1 (upd H2 p (.lst ((bs.map fun x : Nat => (x : Int)).map V.int))) := sm2.trans (same_upd hp)
        refine ⟨_, rfl, p, rfl, ⟨_, SqL.of upd_same⟩, fun D2 hD2 => ?_⟩
        rw [int_ni] at s3 ⊢
        refine lc_list (K := K) (a := p) (xs := bs.map ni) (fun i H' => Same (upd H2 p (.lst (bs.map ni))) H' ∧ H' D2 = some (.lst ((news found (bs.take i)).map ni))) ⟨same_upd (by rw [int_ni] at hD2; exact hD2), upd_same⟩ (fun i H' _ z => SqL.of (z.1 _ _ upd_same)) ?_ ?_
        · rintro i x H' hx ⟨sm3, h3⟩
          have hi : i < bs.length := by
            have := (List.getElem?_eq_some_iff.mp hx).1
            rwa [List.length_map] at this
          rw [List.getElem?_map, List.getElem?_eq_getElem hi] at hx
          obtain rfl : ni bs[i] = x := Option.some.inj hx
          refine ⟨rfl, _, rfl, _, rfl, fa, _, rfl, .inl (SqL.of (sm3 _ _ (s3 _ _ hfa))), rfl, flat_ni _, _, rfl, ?_⟩
          show if (!inV (ni bs[i]) (found.map ni)) = true then _ else _
          rw [inV_ni]
          by_cases z : bs[i] ∈ found
          · rw [decide_eq_true z]
            refine iteF ⟨sm3, ?_⟩
            rw [news_take hi, if_pos z, List.append_nil]
            exact h3
          · rw [decide_eq_false z]
            refine iteT ⟨_, rfl, _, h3, small_line' ?_, same_upd' sm3 (by rw [int_ni] at hD2; exact hD2), ?_⟩
            · rw [List.length_map]
              have e1 : (news found (bs.take i)).length ≤ (news found bs).length := ((List.take_sublist i bs).filter _).length_le
              have e2 := R'.le
              rw [List.length_append] at e2
              omega
            · rw [upd_same, news_take hi, if_neg z, List.map_append]; rfl
        · rintro H' ⟨sm3, h3⟩
          rw [List.length_map, List.take_length] at h3
          have e2 := R'.le
          rw [List.length_append] at e2
          refine ⟨_, rfl, _, rfl, fa, D2, _, _, rfl, rfl, sm3 _ _ (s3 _ _ hfa), h3, small_line ?_, fun q hq => ?_⟩
          · rw [List.length_map, List.length_map]; omega
          · refine ⟨_, hlt, found ++ news found bs, news found bs, q, D2, some (.ref p), rfl, R', ((sm.trans s3).trans sm3).trans (same_upd hq), ?_, same_upd hq _ _ h3, rfl⟩
            rw [upd_same, List.map_append]
    · have h0 : fresh = [] := by
        cases fresh with
        | nil => rfl
        | cons a l => exact absurd (decide_eq_true (by simp)) h
      subst h0
      refine ⟨_, rfl, fa, found.map (fun x : Nat => (x : Int)), rfl, SqL.of (by rw [int_ni]; exact hfa), fun ns p pe _ hp => ?_⟩
      obtain ⟨G, e1, e2, e3⟩ := back_ni pe
      rw [e1]
      exact k _ p G (sm.trans (same_upd hp)) upd_same (R.closed.perm e2) (by rw [e3]; exact R.le)
end
end Wb

set_option Elab.async false
set_option linter.all false
set_option maxRecDepth 100000
set_option maxHeartbeats 4000000
namespace Wb
open PySem PySem.Spec PyProof.Rows L2
/-- the same but at one place -/
def Sx (x : Addr) (H H' : Hp) : Prop := ∀ b u, b ≠ x → H b = some u → H' b = some u
theorem Sx.of {x : Addr} {H H' : Hp} (s : Same H H') : Sx x H H' := fun b u _ e => s b u e
theorem Sx.trans {x : Addr} {H H1 H2 : Hp} (s : Sx x H H1) (t : Sx x H1 H2) : Sx x H H2 := fun b u n e => t b u n (s b u n e)
theorem Sx.at_ (x : Addr) (H : Hp) (o : HO) : Sx x H (upd H x o) := fun b u n e => by rw [upd_ne n]; exact e
theorem tup_ne_ins {H : Hp} {p x C dx : Addr} {xs : List V} {fs : List (Str × V)} (h : H p = some (.tup xs)) (h' : H x = some (.ins C dx fs)) : p ≠ x := by
  rintro rfl; rw [h] at h'; cases h'
section
variable {P : Program} {w : World} {K : PySem.W.Frag} {mg : Str → Option Value} {base : Heap} {c : CC} {f : Addr}
/-! ### Machine.__init__ -/
abbrev fB (b : Int) (t u : Addr) : List (Str × V) := [("base", .int b), ("steps", .ref t), ("boxes", .ref u)]
def spMI (c : CC) : Sp := fun vs H Q _ => ∃ (x dx t u : Addr) (b : Nat) (S : List (List Nat)) (B : List Nat), vs = [.ref x, ni b, .ref t, .ref u] ∧ H x = some (.ins c.CM dx []) ∧ RowsAt H t S ∧ H u = some (.tup (B.map ni)) ∧ Raw b S B ∧
  ∀ (H1 : Hp) (F : List Nat) (mx : Nat), Same H H1 → Closed S b F → (∃ s, s ∈ F ∧ B.getD s 0 = mx) → (∀ s, s ∈ F → B.getD s 0 ≤ mx) → Q .non (upd H1 x (.ins c.CM dx (fM b t u ((mx + 1 : Nat) : Int))))
abbrev nMI : List Str := ["self", "base", "steps", "boxes", "found", "state"]
theorem scMI : FnScope nMI ["self", "base", "steps", "boxes"] (defScope sMI) := ⟨rfl, rfl, rfl, by decide +kernel, rfl, by decide +kernel, by decide +kernel⟩
theorem bdMI : BindsSt "__init__" "Machine.__init__" sMI ["self", "base", "steps", "boxes"] := fun _ _ _ _ _ _ us hl => match us, hl with | [_, _, _, _], _ => rfl
theorem ok_MI (T : TS K mg c) (B : TB mg) {fr : Addr} (Dr : Df K "reached_states" "reached_states" sRch fr) (mr : mg "reached_states" = some (.ref fr)) (D : Df K "__init__" "Machine.__init__" sMI f) : FnR P w K mg base CX0 2 f (spMI c) := by
  refine D.okR scMI bdMI (fun vs H Q E h => ?_) (fun cdv A outer s H vs Q E hr h => ?_)
  · obtain ⟨_, _, _, _, _, _, _, rfl, _⟩ := h
    rfl
  · obtain ⟨x, dx, t, u, b, S, Bx, rfl, hx, hS, hu, R, k⟩ := h
    have G1 : FnR P w K mg base CX0 1 fr spRch := ok_Rch B Dr
    refine ⟨_, pss_cons (ps_set (i := 4) scMI.nd rfl (.inl rfl) (pe_callR G1 hr (by rfl) mr Dr.kp (pa_cons (pv 2) pa_nil)))
      (pss_cons (ps_for PassesOwn.never rfl (pi_list (pv 4)) (pg_name (i := 5) scMI.nd rfl (.inl rfl))
        (pss_one (ps_if (pt_cmpR op_ne (pe_ix ix_tup (pv 3) (pv 5) (fun _ _ => rfl)) (pe_ix ix_tup (pv 3) (pe_ix ix_tup (pe_ix ix_tup (pv 2) (pv 5) (fun _ _ => rfl)) pe_int (fun _ _ => rfl)) (fun _ _ => rfl)) (nomark _)) (pss_one ps_never) pss_nil)))
      (pss_cons (ps_fld (pv 0) (pv 1) rfl) (pss_cons (ps_fld (pv 0) (pv 2) rfl) (pss_cons (ps_fld (pv 0) (pv 3) rfl)
      (pss_one (ps_fld (pv 0) (pe_op op_add pe_int (pe_callB (cr_max rfl) (by rfl) B.max (by decide +kernel) (pa_cons (pe_lc (own := [("state", 5)]) (g := gName 5) (tt := tYes) rfl scMI.nd (pi_list (pv 4)) (blkOk_by (N := nMI) (sc := defScope sMI) (by decide +kernel)) (fun _ _ _ _ _ => pg_name (i := 5) scMI.nd rfl (.inl rfl)) (fun _ _ _ _ _ => pts_nil) (fun _ _ _ _ _ => pe_ixT (K := K) rfl (pv 3) (pv 5) (fun _ _ => rfl))) pa_nil))) rfl)))))), ?_⟩
    refine ⟨_, rfl, t, b, S, rfl, hS, R.tab, fun H1 p F s1 hp cF hF => ?_⟩
    have b2 := R.b2
    have hS1 := hS.keep (Kp.of s1)
    obtain ⟨rs, ht1, hrl, hrs⟩ := id hS1
    have hu1 := s1 _ _ hu
    have hx1 := s1 _ _ hx
    have hF0 : F ≠ [] := fun z => by have := cF.zero; rw [z] at this; cases this
    refine ⟨_, rfl, p, rfl, ⟨_, SqL.of hp⟩, for_list (K := K) (a := p) (xs := F.map ni) (fun i sg H' => H' = H1 ∧ ∃ o, sg = [some (.ref x), some (ni b), some (.ref t), some (.ref u), some (.ref p), o]) ⟨rfl, none, rfl⟩ (fun i sg H' _ z => by rw [z.1]; exact SqL.of hp) ?_ ?_⟩
    · rintro i v sg H' hv ⟨rfl, o, rfl⟩
      have hi : i < F.length := by
        have := (List.getElem?_eq_some_iff.mp hv).1
        rwa [List.length_map] at this
      rw [List.getElem?_map, List.getElem?_eq_getElem hi] at hv
      obtain rfl : ni F[i] = v := Option.some.inj hv
      have hq : F[i] < S.length := cF.lt _ (List.getElem_mem hi)
      obtain ⟨r, hr1⟩ : ∃ r, rs[F[i]]? = some r := ⟨_, List.getElem?_eq_getElem (by rw [hrl]; exact hq)⟩
      refine ⟨_, rfl, _, rfl, u, _, _, ni (Bx.getD F[i] 0), rfl, rfl, SqT.of hu1, atI_nat (ni_at (by rw [R.lenB]; exact hq)), ?_⟩
      refine ⟨_, rfl, _, rfl, _, rfl, t, _, _, .ref r, rfl, rfl, SqT.of ht1, atI_nat (by rw [List.getElem?_map, hr1]; rfl), ?_⟩
      refine ⟨r, _, _, ni (nxt S F[i] 0), rfl, rfl, SqT.of (hrs _ _ hr1), atI_nat (j := 0) (ni_at (by rw [R.row _ hq]; omega)), ?_⟩
      refine ⟨u, _, _, ni (Bx.getD (nxt S F[i] 0) 0), rfl, rfl, SqT.of hu1, atI_nat (ni_at (by rw [R.lenB]; exact R.lt _ 0 hq (by omega))), ?_⟩
      rw [R.zero _ hq]
      refine ⟨rfl, _, rfl, ite2 (fun h => absurd h (by simp)) (fun _ => ⟨rfl, _, rfl⟩)⟩
    · rintro sg H' ⟨rfl, o, rfl⟩
      refine ⟨_, rfl, _, rfl, x, c.CM, dx, [], rfl, hx1, T.clM, T.nMb, by decide, ?_⟩
      refine ⟨_, rfl, _, rfl, x, c.CM, dx, _, rfl, upd_same, T.clM, T.nMs, by show 1 < 1000; decide, ?_⟩
      rw [upd_upd, pf0, pf1 mb7, pf0]
      refine ⟨_, rfl, _, rfl, x, c.CM, dx, _, rfl, upd_same, T.clM, T.nMx, by show 2 < 1000; decide, ?_⟩
      rw [upd_upd, pf1 mb8, pf1 mb9, pf0]
      have ux : u ≠ x := tup_ne_ins hu1 hx1
      have px : p ≠ x := by rintro rfl; rw [hp] at hx1; cases hx1
      refine ⟨_, rfl, p, rfl, ⟨_, SqL.of (by rw [upd_ne px]; exact hp)⟩, fun D2 hD2 => ?_⟩
      have D2x : x ≠ D2 := by rintro rfl; rw [upd_same] at hD2; cases hD2
      refine lc_list (K := K) (a := p) (xs := F.map ni) (fun i H2 => Same (upd H' x (.ins c.CM dx (fB b t u))) H2 ∧ H2 D2 = some (.lst ((F.take i).map fun s => ni (Bx.getD s 0)))) ⟨same_upd hD2, upd_same⟩ (fun i H2 _ z => SqL.of (z.1 _ _ (by rw [upd_ne px]; exact hp))) ?_ ?_
      · rintro i v H2 hv ⟨sm, h2⟩
        have hi : i < F.length := by
          have := (List.getElem?_eq_some_iff.mp hv).1
          rwa [List.length_map] at this
        rw [List.getElem?_map, List.getElem?_eq_getElem hi] at hv
        obtain rfl : ni F[i] = v := Option.some.inj hv
        have hq : F[i] < S.length := cF.lt _ (List.getElem_mem hi)
        have l4 := R.lenS
        refine ⟨rfl, ?_⟩
        dsimp only [tYes]
        rw [if_pos rfl]
        refine ⟨_, rfl, _, rfl, u, _, _, ni (Bx.getD F[i] 0), rfl, rfl, SqT.of (sm _ _ (by rw [upd_ne ux]; exact hu1)), atI_nat (ni_at (by rw [R.lenB]; exact hq)), _, h2, small_line' ?_, same_upd' sm hD2, ?_⟩
        · rw [List.length_map, List.length_take]; omega
        · rw [upd_same, List.take_succ_eq_append_getElem hi, List.map_append]; rfl
      · rintro H2 ⟨sm, h2⟩
        rw [List.length_map, List.take_length] at h2
        refine ⟨D2, F.map (fun s => (Bx.getD s 0 : Int)), rfl, SqL.of (by rw [List.map_map]; exact h2), ?_, fun m hm hle => ?_⟩
        · rw [List.length_map]
          exact List.length_pos_iff.mpr hF0
        · obtain ⟨s0, hs0, rfl⟩ := List.mem_map.mp hm
          refine ⟨_, _, rfl, rfl, _, rfl, x, c.CM, dx, _, rfl, sm _ _ upd_same, T.clM, T.nMm, by show 3 < 1000; decide, ?_⟩
          rw [pf1 mbA, pf1 mbB, pf1 mbC, pf0]
          have q := k (upd H2 x (.ins c.CM dx [])) F (Bx.getD s0 0) (fun b' u' e => ?_) cF ⟨s0, hs0, rfl⟩ (fun s hs => ?_)
          · rw [upd_upd] at q
            have e : ((Bx.getD s0 0 + 1 : Nat) : Int) = 1 + (Bx.getD s0 0 : Int) := by omega
            rw [e] at q
            exact q
          · by_cases z : b' = x
            · subst z
              rw [upd_same]; rw [hx] at e; exact e
            · rw [upd_ne z]
              exact sm _ _ (by rw [upd_ne z]; exact s1 _ _ e)
          · have := hle _ (List.mem_map.mpr ⟨s, hs, rfl⟩)
            omega
end
end Wb

set_option Elab.async false
set_option linter.all false
set_option maxRecDepth 100000
set_option maxHeartbeats 4000000
namespace Wb
open PySem PySem.Spec PyProof.Rows L2
/-- zip of two tuples that stand: as many turns as the shorter has items -/
theorem wk_zipT {K : PySem.W.Frag} {a b : Addr} {xs ys : List V} {n : Nat} (hn : n = min xs.length ys.length) : Walk (RZ.ItzT K a b) n (fun H => SqT K H a xs ∧ SqT K H b ys) (YPair (fun i => xs[i]?) (fun i => ys[i]?)) where
  goes := fun i H hi hq => by
    have lx : i < xs.length := Nat.lt_of_lt_of_le hi (hn ▸ Nat.min_le_left _ _)
    have ly : i < ys.length := Nat.lt_of_lt_of_le hi (hn ▸ Nat.min_le_right _ _)
    exact ⟨xs, ys, _, _, hq.1, hq.2, List.getElem?_eq_getElem lx, List.getElem?_eq_getElem ly⟩
  stops := fun H hq => ⟨xs, ys, hq.1, hq.2, by omega⟩
  yields := fun i H v H' _ hq hy => let ⟨T, x, z, ev, nT, eH, fx, fz⟩ := hy; ⟨T, x, z, ev, nT, eH, fx xs hq.1, fz ys hq.2⟩
theorem pairRow_get {wd i : Nat} {R M : List Nat} (h : i < (pairRow wd R M).length) (h1 : i < R.length) (h2 : i < M.length) : (pairRow wd R M)[i] = R.getD i 0 * wd + M.getD i 0 := by
  simp [pairRow, List.getD, h1, h2]
section
variable {P : Program} {w : World} {K : PySem.W.Frag} {mg : Str → Option Value} {base : Heap} {c : CC} {f : Addr}
/-! ### paired_steps -/
def spPst : Sp := fun vs H Q _ => ∃ (r m : Addr) (R M : List Nat) (wd : Nat), vs = [.ref r, .ref m, ni wd] ∧ H r = some (.tup (R.map ni)) ∧ H m = some (.tup (M.map ni)) ∧ R.length ≤ 10 ∧ (∀ x, x ∈ R → x < 4000) ∧
  ∀ (H' : Hp) (p : Addr), Same H H' → H p = none → H' p = some (.tup ((pairRow wd R M).map ni)) → Q (.ref p) H'
abbrev nPst : List Str := ["row", "mate", "width", "after", "behind"]
theorem scPst : FnScope nPst ["row", "mate", "width"] (defScope sPst) := ⟨rfl, rfl, rfl, by decide +kernel, rfl, by decide +kernel, by decide +kernel⟩
theorem bdPst : BindsSt "paired_steps" "paired_steps" sPst ["row", "mate", "width"] := fun _ _ _ _ _ _ us hl => match us, hl with | [_, _, _], _ => rfl
theorem ok_Pst (B : TB mg) (D : Df K "paired_steps" "paired_steps" sPst f) : FnR P w K mg base CX0 1 f spPst := by
  refine D.okR scPst bdPst (fun vs H Q E h => ?_) (fun cdv A outer s H vs Q E hr h => ?_)
  · obtain ⟨_, _, _, _, _, rfl, _⟩ := h
    rfl
  · obtain ⟨r, m, R, M, wd, rfl, hR, hM, hl, hb, k⟩ := h
    refine ⟨_, pss_one (ps_ret (pe_tupleOf (by rfl) B.tuple (pe_lc (own := [("after", 3), ("behind", 4)]) (tt := tYes) rfl scPst.nd (RZ.pi_zipA (by rfl) B.zip (pa_cons (pv 0) (pa_cons (pv 1) pa_nil))) (blkOk_by (N := nPst) (sc := defScope sPst) (by decide +kernel))
      (fun _ _ _ _ _ => pg_tupK (K := K) (n := 2) rfl rfl (pgs_cons (pg_name (i := 3) scPst.nd rfl (.inl rfl)) (pgs_cons (pg_name (i := 4) scPst.nd rfl (.inl rfl)) pgs_nil))) (fun _ _ _ _ _ => pts_nil)
      (fun _ _ _ _ _ => pe_op op_add (pe_op op_mul (pv 3) (pv 2)) (pv 4))))), ?_⟩
    have hzl : (pairRow wd R M).length = min R.length M.length := by unfold pairRow; rw [List.length_zipWith]
    refine ⟨_, rfl, _, rfl, r, m, _, _, rfl, .inr ⟨SqT.of hR, SqT.of hM, fun D2 hD2 => ?_⟩⟩
    refine lc_it (wk_zipT rfl) (fun i H2 => Same H H2 ∧ H2 D2 = some (.lst (((pairRow wd R M).take i).map ni))) ⟨same_upd hD2, upd_same⟩ (fun i H2 _ z => ⟨SqT.of (z.1 _ _ hR), SqT.of (z.1 _ _ hM)⟩) ?_ ?_
    · rintro i v H2 H3 hi ⟨sm, h2⟩ ⟨T, x, y, rfl, hT, rfl, hx, hy⟩
      rw [List.length_map, List.length_map, ← hzl] at hi
      have i1 : i < R.length := by omega
      have i2 : i < M.length := by omega
      dsimp only at hx hy
      rw [ni_at i1] at hx
      rw [ni_at i2] at hy
      obtain rfl := Option.some.inj hx
      obtain rfl := Option.some.inj hy
      have hb' := hb (R.getD i 0) (by rw [List.getD_eq_getElem?_getD, List.getElem?_eq_getElem i1]; exact List.getElem_mem i1)
      have hDT : D2 ≠ T := by rintro rfl; rw [h2] at hT; cases hT
      refine ⟨T, _, rfl, SqT.of upd_same, rfl, _, _, rfl, _, _, rfl, rfl, rfl, ?_⟩
      dsimp only [tYes]
      rw [if_pos rfl]
      refine ⟨_, rfl, _, rfl, _, _, rfl, rfl, .inl ⟨by omega, by omega⟩, _, rfl, _, _, rfl, rfl, _, by rw [upd_ne hDT]; exact h2, small_line' ?_, same_upd' (sm.trans (same_upd hT)) hD2, ?_⟩
      · rw [List.length_map, List.length_take]; omega
      · rw [upd_same, List.take_succ_eq_append_getElem hi, List.map_append]
        rw [pairRow_get hi i1 i2]
        show _ = some (HO.lst (_ ++ [V.int ((R.getD i 0 * wd + M.getD i 0 : Nat) : Int)]))
        rw [Int.natCast_add, Int.natCast_mul]
    · rintro H2 ⟨sm, h2⟩
      rw [List.length_map, List.length_map, ← hzl, List.take_length] at h2
      exact .inl ⟨D2, _, rfl, SqL.of h2, fun q hq => k _ q (sm.trans (same_upd hq)) (sm.free hq) upd_same⟩
end
end Wb

set_option Elab.async false
set_option linter.all false
set_option maxRecDepth 100000
set_option maxHeartbeats 4000000
namespace Wb
open PySem PySem.Spec PyProof.Rows L2
/-! ### lists of rows -/
def Refs (H : Hp) (rs : List Addr) (S : List (List Nat)) : Prop := rs.length = S.length ∧ ∀ i r, rs[i]? = some r → H r = some (.tup ((S.getD i []).map ni))
theorem Refs.keep {H H' : Hp} {rs : List Addr} {S : List (List Nat)} (h : Refs H rs S) (k : Kp H H') : Refs H' rs S := ⟨h.1, fun i r e => k _ _ (h.2 i r e) True.intro⟩
theorem Refs.nil {H : Hp} : Refs H [] [] := ⟨rfl, fun i r e => by simp at e⟩
theorem Refs.app {H : Hp} {rs qs : List Addr} {S T : List (List Nat)} (h : Refs H rs S) (g : Refs H qs T) : Refs H (rs ++ qs) (S ++ T) := by
  refine ⟨by rw [List.length_append, List.length_append, h.1, g.1], fun i r e => ?_⟩
  by_cases z : i < rs.length
  · rw [List.getElem?_append_left z] at e
    have := h.2 i r e
    rw [List.getD_eq_getElem?_getD, List.getElem?_append_left (by rw [← h.1]; exact z), ← List.getD_eq_getElem?_getD]
    exact this
  · rw [List.getElem?_append_right (by omega)] at e
    have := g.2 _ r e
    rw [List.getD_eq_getElem?_getD, List.getElem?_append_right (by rw [← h.1]; omega), ← h.1, ← List.getD_eq_getElem?_getD]
    exact this
theorem Refs.one {H : Hp} {r : Addr} {row : List Nat} (h : H r = some (.tup (row.map ni))) : Refs H [r] [row] := by
  refine ⟨rfl, fun i q e => ?_⟩
  cases i with
  | zero =>
    obtain rfl : r = q := by simpa using e
    exact h
  | succ i => simp at e
theorem Refs.rows {H : Hp} {t : Addr} {rs : List Addr} {S : List (List Nat)} (h : Refs H rs S) (ht : H t = some (.tup (rs.map V.ref))) : RowsAt H t S := ⟨rs, ht, h.1, h.2⟩
theorem kp_upd {H : Hp} {p : Addr} {o o' : HO} (h : H p = some o') (hz : ¬ Fz o') : Kp H (upd H p o) := fun b u e z => by
  have : b ≠ p := by
    rintro rfl
    rw [h] at e
    cases e
    exact hz z
  rw [upd_ne this]; exact e
theorem get_mem {α : Type} {l : List α} {i : Nat} (d : α) (h : i < l.length) : l.getD i d ∈ l := by
  rw [List.getD_eq_getElem?_getD, List.getElem?_eq_getElem h]; exact List.getElem_mem h
theorem row_lt {b : Nat} {S : List (List Nat)} (t : Tab b S) {s x : Nat} (hs : s < S.length) (hx : x ∈ S.getD s []) : x < S.length := by
  obtain ⟨d, hd, rfl⟩ := List.mem_iff_getElem.mp hx
  have q := t.lt s d hs (by rw [← t.row s hs]; exact hd)
  unfold nxt at q
  rwa [List.getD_eq_getElem?_getD, List.getElem?_eq_getElem hd] at q
theorem flat_succ {α β : Type} {l : List α} {f : α → List β} {i : Nat} (d : α) (h : i < l.length) : (l.take (i + 1)).flatMap f = (l.take i).flatMap f ++ f (l.getD i d) := by
  rw [List.take_succ_eq_append_getElem h, List.flatMap_append, List.flatMap_singleton]
  congr 2
  simp [List.getD, h]
theorem map_succ {α β : Type} {l : List α} {f : α → β} {i : Nat} (d : α) (h : i < l.length) : (l.take (i + 1)).map f = (l.take i).map f ++ [f (l.getD i d)] := by
  rw [List.take_succ_eq_append_getElem h, List.map_append]
  congr 2
  simp [List.getD, h]
section
variable {P : Program} {w : World} {K : PySem.W.Frag} {mg : Str → Option Value} {base : Heap} {c : CC} {f : Addr}
/-- what making a machine wants -/
structure TMa (K : PySem.W.Frag) (mg : Str → Option Value) (c : CC) (fMI fr fps : Addr) : Prop where
  mkM : Mk K c.CM fMI
  dMI : Df K "__init__" "Machine.__init__" sMI fMI
  dr : Df K "reached_states" "reached_states" sRch fr
  mr : mg "reached_states" = some (.ref fr)
  dp : Df K "paired_steps" "paired_steps" sPst fps
  mp : mg "paired_steps" = some (.ref fps)
variable {fMI fr fps : Addr}
/-! ### Machine.__mul__ -/
def spMmul (c : CC) : Sp := fun vs H Q _ => ∃ (a1 a2 : Addr) (M1 M2 : Mac), vs = [.ref a1, .ref a2] ∧ MachAt c.CM H a1 M1 ∧ MachAt c.CM H a2 M2 ∧ Raw M1.b M1.S M1.B ∧ Raw M1.b M2.S M2.B ∧ M1.S.length * M2.S.length ≤ 4000 ∧ 
  (∀ i j, i < M1.S.length → j < M2.S.length → M1.B.getD i 0 * M2.many + M2.B.getD j 0 < 200) ∧ ∀ (H' : Hp) (a : Addr) (n : Nat), Same H H' → H a = none → MachAt c.CM H' a ⟨M1.b, prodS M1.S M2.S, prodB M2.many M1.B M2.B, n⟩ → Q (.ref a) H'
abbrev nMmul : List Str := ["self", "other", "width", "rows", "row", "boxes", "mate", "box"]
theorem scMmul : FnScope nMmul ["self", "other"] (defScope sMmul) := ⟨rfl, rfl, rfl, by decide +kernel, rfl, by decide +kernel, by decide +kernel⟩
theorem bdMmul : BindsSt "__mul__" "Machine.__mul__" sMmul ["self", "other"] := fun _ _ _ _ _ _ us hl => match us, hl with | [_, _], _ => rfl
theorem ok_Mmul (T : TS K mg c) (B : TB mg) (M : TMa K mg c fMI fr fps) (D : Df K "__mul__" "Machine.__mul__" sMmul f) : FnR P w K mg base CX0 4 f (spMmul c) := by
  refine D.okR scMmul bdMmul (fun vs H Q E h => ?_) (fun cdv A outer s H vs Q E hr h => ?_)
  · obtain ⟨_, _, _, _, rfl, _⟩ := h
    rfl
  · obtain ⟨a1, a2, M1, M2, rfl, h1, h2, R1, R2, hz, hk, k⟩ := h
    have GP : FnR P w K mg base CX0 1 fps spPst := ok_Pst B M.dp
    have GI : FnR P w K mg base CX0 2 fMI (spMI c) := ok_MI T B M.dr M.mr M.dMI
    refine ⟨_, pss_cons (ps_set (i := 2) scMmul.nd rfl (.inr rfl) (pe_callB call_len_seq (by rfl) B.len PySem.boot_len (pa_cons (pe_fld (pv 1) rfl) pa_nil)))
      (pss_cons (ps_set (i := 3) scMmul.nd rfl (.inl rfl) (pe_lst pa_nil))
      (pss_cons (ps_for PassesOwn.never rfl (pi_tup (pe_fld (pv 0) rfl)) (pg_name (i := 4) scMmul.nd rfl (.inr rfl))
        (pss_one (ps_expr (pe_bm PySem.F.plainAttrs_list PySem.F.slot_list_extend PySem.F.type_list_extend mt_extend (pv 3) (pa_cons
          (pe_lc (own := [("mate", 6)]) (g := gName 6) (tt := tYes) rfl scMmul.nd (pi_tup (pe_fld (pv 1) rfl)) (blkOk_by (N := nMmul) (sc := defScope sMmul) (by decide +kernel)) (fun _ _ _ _ _ => pg_name (i := 6) scMmul.nd rfl (.inl rfl)) (fun _ _ _ _ _ => pts_nil)
            (fun _ _ _ _ _ => pe_callR GP (hr.mono (by decide)) (by rfl) M.mp M.dp.kp (pa_cons (pv 4) (pa_cons (pv 6) (pa_cons (pv 2) pa_nil))))) pa_nil)))))
      (pss_cons (ps_set (i := 5) scMmul.nd rfl (.inl rfl) (pe_tupleOf (by rfl) B.tuple (pe_lc2 (own := [("box", 7), ("mate", 6)]) (vs1 := [6]) (tt := tYes) (tt1 := tYes) rfl scMmul.nd (pi_tup (pe_fld (pv 0) rfl)) (blkOk_by (N := nMmul) (sc := defScope sMmul) (by decide +kernel)) (by decide)
          (fun _ _ _ _ _ => pg_name (i := 7) scMmul.nd rfl (.inl rfl)) (fun _ _ _ _ _ => pts_nil) (fun _ _ _ _ _ => pi_tupK (K := K) rfl (pe_fldK (K := K) rfl (pv 1) rfl)) (fun _ _ _ _ _ => pg_name (i := 6) scMmul.nd rfl (.inl rfl)) (fun _ _ _ _ _ => pts_nil)
          (fun _ _ _ _ _ => pe_op op_add (pe_op op_mul (pv 7) (pe_fldK (K := K) rfl (pv 1) rfl)) (pv 6)))))
      (pss_one (ps_ret (StX.pe_makeR M.mkM GI (hr.mono (by decide)) rfl T.mgM pass0 (pa_cons (pe_fld (pv 0) rfl) (pa_cons (pe_tupleOf (by rfl) B.tuple (pv 3)) (pa_cons (pv 5) pa_nil))))))))), ?_⟩
    obtain ⟨dx1, t1, u1, e1, ⟨rs1, ht1, hl1, hr1⟩, hB1⟩ := id h1
    obtain ⟨dx2, t2, u2, e2, ⟨rs2, ht2, hl2, hr2⟩, hB2⟩ := id h2
    have l1 := R1.lenS
    have l2 := R2.lenS
    have b10 := R1.b10
    have hw : V.int ((rs2.map V.ref).length : Int) = ni M2.S.length := by rw [List.length_map, hl2]; rfl
    refine ⟨_, rfl, a2, c.CM, dx2, _, _, rfl, e2, T.clM, T.nMs, fM_steps _ _ _ _, t2, _, rfl, .inr (SqT.of ht2), ?_⟩
    rw [hw]
    refine ⟨small_line (Nat.le_of_ble_eq_true rfl), fun p hp => ?_⟩
    have s0 : Same H (upd H p (.lst [])) := same_upd hp
    refine ⟨_, rfl, a1, c.CM, dx1, _, _, rfl, s0 _ _ e1, T.clM, T.nMs, fM_steps _ _ _ _, t1, rfl, ⟨_, SqT.of (s0 _ _ ht1)⟩, ?_⟩
    refine for_tup (K := K) (a := t1) (xs := rs1.map V.ref) (fun i sg H' => Same H H' ∧ (∃ rs, H' p = some (.lst (rs.map V.ref)) ∧ Refs H' rs ((M1.S.take i).flatMap fun r => M2.S.map (pairRow M2.S.length r))) ∧
      ∃ o, sg = [some (.ref a1), some (.ref a2), some (ni M2.S.length), some (.ref p), o, none, none, none]) ⟨s0, ⟨[], upd_same, Refs.nil⟩, none, rfl⟩ (fun i sg H' _ z => SqT.of (z.1 _ _ ht1)) ?_ ?_
    · rintro i v sg H' hv ⟨sm, ⟨rs, hp', hR⟩, o, rfl⟩
      have hi : i < M1.S.length := by
        have := (List.getElem?_eq_some_iff.mp hv).1
        rwa [List.length_map, hl1] at this
      obtain ⟨q1, hq1⟩ : ∃ r, rs1[i]? = some r := ⟨_, List.getElem?_eq_getElem (by rw [hl1]; exact hi)⟩
      rw [List.getElem?_map, hq1] at hv
      obtain rfl : V.ref q1 = v := Option.some.inj hv
      refine ⟨_, rfl, .inl ⟨rfl, _, SqL.of hp'⟩, _, rfl, a2, c.CM, dx2, _, _, rfl, sm _ _ e2, T.clM, T.nMs, fM_steps _ _ _ _, t2, rfl, ⟨_, SqT.of (sm _ _ ht2)⟩, fun D2 hD2 => ?_⟩
      refine lc_tup (K := K) (a := t2) (xs := rs2.map V.ref) (fun j H2 => Same H' H2 ∧ ∃ qs, H2 D2 = some (.lst (qs.map V.ref)) ∧ Refs H2 qs ((M2.S.take j).map (pairRow M2.S.length (M1.S.getD i [])))) ⟨same_upd hD2, [], upd_same, Refs.nil⟩ (fun j H2 _ z => SqT.of (z.1 _ _ (sm _ _ ht2))) ?_ ?_
      · rintro j v H2 hv ⟨sm2, qs, h2', hQ⟩
        have hj : j < M2.S.length := by
          have := (List.getElem?_eq_some_iff.mp hv).1
          rwa [List.length_map, hl2] at this
        obtain ⟨q2, hq2⟩ : ∃ r, rs2[j]? = some r := ⟨_, List.getElem?_eq_getElem (by rw [hl2]; exact hj)⟩
        rw [List.getElem?_map, hq2] at hv
        obtain rfl : V.ref q2 = v := Option.some.inj hv
        refine ⟨rfl, ?_⟩
        dsimp only [tYes]
        rw [if_pos rfl]
        refine ⟨_, rfl, _, rfl, _, rfl, q1, q2, _, _, M2.S.length, rfl, sm2 _ _ (sm _ _ (hr1 i q1 hq1)), sm2 _ _ (sm _ _ (hr2 j q2 hq2)), by rw [R1.row i hi]; exact b10, fun x hx => Nat.lt_of_lt_of_le (row_lt R1.tab hi hx) l1, fun H3 z s3 hz3 h3 => ?_⟩
        have hD3 := s3 _ _ h2'
        have hDn : D2 ≠ z := by rintro rfl; rw [h2'] at hz3; cases hz3
        have hln := hQ.1
        rw [List.length_map, List.length_take] at hln
        refine ⟨_, hD3, small_line' (by rw [List.length_map, hln]; omega), same_upd' (sm2.trans s3) hD2, qs ++ [z], ?_, ?_⟩
        · rw [upd_same, List.map_append]; rfl
        · rw [map_succ [] hj]
          exact ((hQ.keep (Kp.of s3)).app (Refs.one h3)).keep (kp_upd hD3 id)
      · rintro H2 ⟨sm2, qs, h2', hQ⟩
        rw [List.length_map, hl2, List.take_length] at hQ
        have hln := hR.1
        have hln2 := hQ.1
        have hflat : ((M1.S.take i).flatMap fun r => M2.S.map (pairRow M2.S.length r)).length = (M1.S.take i).length * M2.S.length := flat_len _ _ _
        rw [hflat, List.length_take] at hln
        rw [List.length_map] at hln2
        have hmul : min i M1.S.length * M2.S.length ≤ M1.S.length * M2.S.length := Nat.mul_le_mul_right _ (Nat.min_le_right _ _)
        refine ⟨p, D2, _, _, rfl, rfl, sm2 _ _ hp', h2', small_line (by rw [List.length_map, List.length_map]; omega), same_upd' (sm.trans sm2) hp, ⟨rs ++ qs, by rw [upd_same, List.map_append], ?_⟩, _, rfl⟩
        rw [flat_succ [] hi]
        exact ((hR.keep (Kp.of sm2)).app hQ).keep (kp_upd (sm2 _ _ hp') id)
    · rintro sg H1 ⟨sm, ⟨rs, hp', hR⟩, o, rfl⟩
      rw [List.length_map, hl1, List.take_length] at hR
      have hR' : Refs H1 rs (prodS M1.S M2.S) := hR
      refine ⟨_, rfl, a1, c.CM, dx1, _, _, rfl, sm _ _ e1, T.clM, T.nMx, fM_boxes _ _ _ _, u1, rfl, ⟨_, SqT.of (sm _ _ hB1)⟩, fun D2 hD2 => ?_⟩
      refine wk_tup (K := K) (a := u1) (xs := M1.B.map ni) (fun i H2 => Same H1 H2 ∧ H2 D2 = some (.lst (((M1.B.take i).flatMap fun x => M2.B.map fun y => x * M2.many + y).map ni))) ⟨same_upd hD2, upd_same⟩ (fun i H2 _ z => SqT.of (z.1 _ _ (sm _ _ hB1))) ?_ ?_
      · rintro i v H2 hv ⟨sm2, h2'⟩
        have hi : i < M1.B.length := by
          have := (List.getElem?_eq_some_iff.mp hv).1
          rwa [List.length_map] at this
        rw [ni_at hi] at hv
        obtain rfl := Option.some.inj hv
        have hbx := R1.box i (by rw [← R1.lenB]; exact hi)
        refine ⟨rfl, ?_⟩
        dsimp only [tYes]
        rw [if_pos rfl]
        have sm3 := sm.trans sm2
        refine ⟨_, rfl, a2, c.CM, dx2, _, _, rfl, sm3 _ _ e2, T.clM, T.nMx, fM_boxes _ _ _ _, u2, rfl, ⟨_, SqT.of (sm3 _ _ hB2)⟩, ?_⟩
        refine wk_tup (K := K) (a := u2) (xs := M2.B.map ni) (fun j H2 => Same H1 H2 ∧ H2 D2 = some (.lst (((M1.B.take i).flatMap (fun x => M2.B.map fun y => x * M2.many + y) ++ (M2.B.take j).map fun y => M1.B.getD i 0 * M2.many + y).map ni))) ⟨sm2, by rw [List.take_zero, List.map_nil, List.append_nil]; exact h2'⟩ (fun j H2 _ z => SqT.of ((sm.trans z.1) _ _ hB2)) ?_ ?_
        · rintro j v H3 hv ⟨sm4, h3'⟩
          have hj : j < M2.B.length := by
            have := (List.getElem?_eq_some_iff.mp hv).1
            rwa [List.length_map] at this
          rw [ni_at hj] at hv
          obtain rfl := Option.some.inj hv
          refine ⟨rfl, ?_⟩
          dsimp only [tYes]
          rw [if_pos rfl]
          have hflat : ((M1.B.take i).flatMap fun x => M2.B.map fun y => x * M2.many + y).length = (M1.B.take i).length * M2.B.length := flat_len (fun x y => x * M2.many + y) _ _
          have hmul : min i M1.B.length * M2.B.length ≤ M1.S.length * M2.S.length := by
            rw [R1.lenB, R2.lenB]
            exact Nat.mul_le_mul_right _ (Nat.min_le_right _ _)
          have lB2 := R2.lenB
          refine ⟨_, rfl, _, rfl, a2, c.CM, dx2, _, _, rfl, (sm.trans sm4) _ _ e2, T.clM, T.nMm, fM_many _ _ _ _, _, _, rfl, rfl, .inl ⟨by omega, by omega⟩, _, rfl, _, _, rfl, rfl, _, h3', small_line' ?_, same_upd' sm4 hD2, ?_⟩
          · rw [List.length_map, List.length_append, hflat, List.length_take, List.length_map, List.length_take]; omega
          · rw [upd_same, map_succ 0 hj, ← List.append_assoc]
            conv => rhs; rw [List.map_append]
            show _ = some (HO.lst (_ ++ [V.int ((M1.B.getD i 0 * M2.many + M2.B.getD j 0 : Nat) : Int)]))
            rw [Int.natCast_add, Int.natCast_mul]
        · rintro H3 ⟨sm4, h3'⟩
          rw [List.length_map, List.take_length] at h3'
          refine ⟨sm4, ?_⟩
          rw [flat_succ 0 hi]
          exact h3'
      · rintro H2 ⟨sm2, h2'⟩
        rw [List.length_map, List.take_length] at h2'
        refine .inl ⟨D2, _, rfl, SqL.of h2', fun u hu => ?_⟩
        have s5 : Same H1 (upd H2 u (.tup ((prodB M2.many M1.B M2.B).map ni))) := sm2.trans (same_upd hu)
        have sm5 := sm.trans s5
        refine ⟨_, rfl, a1, c.CM, dx1, _, _, rfl, sm5 _ _ e1, T.clM, T.nMb, fM_base _ _ _ _, _, rfl, .inl ⟨p, _, rfl, SqL.of (s5 _ _ hp'), fun t ht => ?_⟩⟩
        have s6 := same_upd (o := .tup (rs.map V.ref)) ht
        refine ⟨_, rfl, fun x dx nx ndx ne => ?_⟩
        have s7 : Same (upd (upd H2 u (.tup ((prodB M2.many M1.B M2.B).map ni))) t (.tup (rs.map V.ref))) _ := same_made (C := c.CM) (fs := []) nx ndx
        have s8 := (s5.trans s6).trans s7
        refine ⟨x, dx, t, u, M1.b, prodS M1.S M2.S, prodB M2.many M1.B M2.B, rfl, upd_same, (hR'.keep (Kp.of s8)).rows (s7 _ _ upd_same), s7 _ _ (s6 _ _ upd_same), prod_raw R1 R2 hz hk, fun H3 F mx s9 cF _ _ => ⟨rfl, ?_⟩⟩
        have g1 := same_upd' (o := .ins c.CM dx (fM M1.b t u ((mx + 1 : Nat) : Int))) (s7.trans s9) nx
        have g2 := s6.trans g1
        have g3 := s5.trans g2
        exact k _ x (mx + 1) (sm.trans g3) ((sm.trans (s5.trans s6)).free nx) ⟨dx, t, u, upd_same, (hR'.keep (Kp.of g3)).rows (g1 _ _ upd_same), g2 _ _ upd_same⟩
end
end Wb

set_option Elab.async false
set_option linter.all false
set_option maxRecDepth 100000
set_option maxHeartbeats 4000000
namespace Wb
open PySem PySem.Spec PyProof.Rows L2
theorem rgV_ni (b : Nat) : rgV 0 (b : Int) = (List.range b).map ni := by
  unfold rgV
  have e : ((b : Int) - 0).toNat = b := by omega
  rw [e]
  refine List.map_congr_left fun i _ => ?_
  show V.int (0 + (i : Int)) = V.int (i : Int)
  rw [Int.zero_add]
theorem rep_ni (b d : Nat) : (List.replicate b [ni d]).flatten = (List.replicate b d).map ni := by
  induction b with
  | zero => rfl
  | succ b ih => rw [List.replicate_succ, List.flatten_cons, ih, List.replicate_succ, List.map_cons]; rfl
theorem last_many {b mx : Nat} {F : List Nat} (hb : 2 ≤ b) (cF : Closed (lastS b) b F) (h1 : ∃ s, s ∈ F ∧ (lastB b).getD s 0 = mx) (h2 : ∀ s, s ∈ F → (lastB b).getD s 0 ≤ mx) : mx + 1 = b - 1 := by
  obtain ⟨s, hs, rfl⟩ := h1
  obtain ⟨t, ht, e⟩ := last_top hb cF
  have := h2 t ht
  have l := cF.lt s hs
  rw [lastS_len hb] at l
  have := last_le hb l
  omega
theorem lastM_ok {b : Nat} (hb : 2 ≤ b) (h10 : b ≤ 10) : (lastM b).Ok := ⟨last_raw hb h10, fun F c => last_top hb c, by show b - 1 ≤ 200; omega⟩
section
variable {P : Program} {w : World} {K : PySem.W.Frag} {mg : Str → Option Value} {base : Heap} {c : CC} {f fRI fLI fPI fSI fMI fr fps : Addr}
/-! ### Machine.sorter -/
def spMsort (c : CC) : Sp := fun vs H Q _ => ∃ (a : Addr) (M : Mac), vs = [.ref a] ∧ MachAt c.CM H a M ∧ ∀ (H' : Hp) (x : Addr), Same H H' → H x = none → LeafAt c H' x (.mach M) → Q (.ref x) H'
theorem scMsort : FnScope ["self"] ["self"] (defScope sMsort) := ⟨rfl, rfl, rfl, by decide +kernel, rfl, by decide +kernel, by decide +kernel⟩
theorem bdMsort : BindsSt "sorter" "Machine.sorter" sMsort ["self"] := fun _ _ _ _ _ _ us hl => match us, hl with | [_], _ => rfl
theorem ok_Msort (T : TS K mg c) (M : TM K c fRI fLI fPI fSI) (D : Df K "sorter" "Machine.sorter" sMsort f) : FnR P w K mg base CX0 3 f (spMsort c) := by
  refine D.okR scMsort bdMsort (fun vs H Q E h => ?_) (fun cdv A outer s H vs Q E hr h => ?_)
  · obtain ⟨_, _, rfl, _⟩ := h
    rfl
  · obtain ⟨a, m, rfl, h1, k⟩ := h
    have G2 : FnR P w K mg base CX0 1 fSI (spSI c) := ok_SI T M.dSI
    obtain ⟨dx, t, u, e1, hS, hB⟩ := id h1
    refine ⟨_, pss_one (ps_ret (StX.pe_makeR M.mkS G2 hr rfl T.mgS pass0 (pa_cons (pe_fld (pv 0) rfl) (pa_cons (pv 0) pa_nil)))), ?_⟩
    refine ⟨_, rfl, a, c.CM, dx, _, _, rfl, e1, T.clM, T.nMm, fM_many _ _ _ _, _, rfl, fun x dx' nx ndx ne => ⟨x, dx', a, m.many, rfl, upd_same, rfl, ?_⟩⟩
    rw [upd_upd]
    have s1 : Same H (upd (upd H dx' (.own x)) x (.ins c.CS dx' (fS m.many a))) := same_made nx ndx
    exact k _ x s1 nx ⟨dx', a, upd_same, h1.keep (Kp.of s1)⟩
/-! ### Machine.last -/
def spMlast (c : CC) : Sp := fun vs H Q _ => ∃ b : Nat, vs = [ni b] ∧ 2 ≤ b ∧ b ≤ 10 ∧ ∀ (H' : Hp) (a : Addr), Same H H' → H a = none → MachAt c.CM H' a (lastM b) → Q (.ref a) H'
abbrev nMlast : List Str := ["base", "steps", "digit"]
theorem scMlast : FnScope nMlast ["base"] (defScope sMlast) := ⟨rfl, rfl, rfl, by decide +kernel, rfl, by decide +kernel, by decide +kernel⟩
theorem bdMlast : BindsSt "last" "Machine.last" sMlast ["base"] := fun _ _ _ _ _ _ us hl => match us, hl with | [_], _ => rfl
theorem ok_Mlast (T : TS K mg c) (B : TB mg) (M : TMa K mg c fMI fr fps) (D : Df K "last" "Machine.last" sMlast f) : FnR P w K mg base CX0 4 f (spMlast c) := by
  refine D.okR scMlast bdMlast (fun vs H Q E h => ?_) (fun cdv A outer s H vs Q E hr h => ?_)
  · obtain ⟨_, rfl, _⟩ := h
    rfl
  · obtain ⟨b, rfl, hb, h10, k⟩ := h
    have GI : FnR P w K mg base CX0 2 fMI (spMI c) := ok_MI T B M.dr M.mr M.dMI
    refine ⟨_, pss_cons (ps_set (i := 1) scMlast.nd rfl (.inl rfl) (pe_lst (pa_cons (pe_tupRg rfl (by rfl) B.tuple (prg_1 (by rfl) B.range (pv 0))) pa_nil)))
      (pss_cons (ps_for PassesOwn.never rfl (pi_range2 (by rfl) B.range (pa_cons pe_int (pa_cons (pv 0) pa_nil))) (pg_name (i := 2) scMlast.nd rfl (.inl rfl))
        (pss_one (ps_expr (pe_bm PySem.F.plainAttrs_list PySem.F.slot_list_append PySem.F.type_list_append mt_append (pv 1) (pa_cons (pe_op op_repT (pe_tup (pa_cons (pv 2) pa_nil)) (pv 0)) pa_nil)))))
      (pss_one (ps_ret (StX.pe_makeR M.mkM GI hr rfl T.mgM pass0 (pa_cons (pv 0) (pa_cons (pe_tupleOf (by rfl) B.tuple (pv 1)) (pa_cons (pe_op op_catT (pe_tup (pa_cons pe_int pa_nil)) (pe_tupRg rfl (by rfl) B.tuple (prg_1 (by rfl) B.range (pe_op op_sub (pv 0) pe_int)))) pa_nil))))))), ?_⟩
    refine ⟨_, rfl, (b : Int), rfl, RgOk.of_le (by omega) (by omega) (by omega) (by omega), fun q0 hq0 => ?_⟩
    rw [rgV_ni]
    refine ⟨small_line (Nat.le_of_ble_eq_true rfl), fun p hp => ?_⟩
    have s0 : Same H (upd H q0 (.tup ((List.range b).map ni))) := same_upd hq0
    have s1 := same_upd (o := .lst [V.ref q0]) hp
    have hpn : H p = none := s0.free hp
    refine ⟨_, rfl, 1, (b : Int), rfl, ⟨by omega, by omega, by omega, by omega⟩, ?_⟩
    refine for_range (lo := 1) (n := ((b : Int) - 1).toNat) (fun i sg H' => Same H H' ∧ (∃ rs, H' p = some (.lst (rs.map V.ref)) ∧ Refs H' rs (List.range b :: (List.range i).map fun d => List.replicate b (d + 1))) ∧ ∃ o, sg = [some (ni b), some (.ref p), o])
      ⟨s0.trans s1, ⟨[q0], upd_same, Refs.one (s1 _ _ upd_same)⟩, none, rfl⟩ ?_ ?_
    · rintro i sg H' hi ⟨sm, ⟨rs, hp', hR⟩, o, rfl⟩
      have hln := hR.1
      rw [List.length_cons, List.length_map, List.length_range] at hln
      refine ⟨_, rfl, .inl ⟨rfl, _, SqL.of hp'⟩, _, rfl, small_line (Nat.le_of_ble_eq_true rfl), fun t ht => ?_⟩
      have s2 : Same H' _ := same_upd (o := .tup [V.int (1 + (i : Int))]) ht
      refine ⟨_, rfl, t, (b : Int), _, rfl, rfl, SqT.of upd_same, by simp, by omega, by omega, by simp, fun q hq => ?_⟩
      have s3 := same_upd (o := .tup (List.replicate (b : Int).toNat [V.int (1 + (i : Int))]).flatten) hq
      have e1 : V.int (1 + (i : Int)) = ni (i + 1) := by
        show V.int _ = V.int _
        congr 1
        omega
      refine ⟨p, _, .ref q, rfl, rfl, s3 _ _ (s2 _ _ hp'), small_line' (by rw [List.length_map]; omega), same_upd' (sm.trans (s2.trans s3)) hpn, ⟨rs ++ [q], by rw [upd_same, List.map_append]; rfl, ?_⟩, _, rfl⟩
      have e2 : (List.range b :: (List.range (i + 1)).map fun d => List.replicate b (d + 1)) = (List.range b :: (List.range i).map fun d => List.replicate b (d + 1)) ++ [List.replicate b (i + 1)] := by
        rw [List.range_succ, List.map_append]; rfl
      rw [e2]
      refine ((hR.keep (Kp.of (s2.trans s3))).app (Refs.one ?_)).keep (kp_upd (s3 _ _ (s2 _ _ hp')) id)
      rw [upd_same, e1, Int.toNat_natCast, rep_ni]
    · rintro sg H1 ⟨sm, ⟨rs, hp', hR⟩, o, rfl⟩
      have e0 : ((b : Int) - 1).toNat = b - 1 := by omega
      rw [e0] at hR
      have hR' : Refs H1 rs (lastS b) := hR
      refine ⟨_, rfl, _, rfl, .inl ⟨p, _, rfl, SqL.of hp', fun t ht => ?_⟩⟩
      have s2 := same_upd (o := .tup (rs.map V.ref)) ht
      refine ⟨small_line (Nat.le_of_ble_eq_true rfl), fun z hz => ?_⟩
      have s3 := same_upd (o := .tup [V.int 0]) hz
      refine ⟨_, rfl, _, _, rfl, rfl, _, rfl, RgOk.of_le (by omega) (by omega) (by omega) (by omega), fun y hy => ?_⟩
      have eb : (b : Int) - 1 = ((b - 1 : Nat) : Int) := by omega
      rw [eb, rgV_ni]
      have s4 := same_upd (o := .tup ((List.range (b - 1)).map ni)) hy
      refine ⟨z, y, [V.int 0], (List.range (b - 1)).map ni, rfl, rfl, SqT.of (s4 _ _ upd_same), SqT.of upd_same, by simp, small_line (by simp; omega), fun e => absurd (congrArg List.length e) (by simp; omega), fun _ u hu => fun x dx nx ndx ne => ?_⟩
      have s5 := same_upd (o := .tup ([V.int 0] ++ (List.range (b - 1)).map ni)) hu
      have s6 := same_made (C := c.CM) (fs := []) nx ndx
      have s7 := s5.trans s6
      have s8 := s4.trans s7
      have s9 := s3.trans s8
      have s10 := s2.trans s9
      refine ⟨x, dx, t, u, b, lastS b, lastB b, rfl, upd_same, (hR'.keep (Kp.of s10)).rows (s9 _ _ upd_same), s6 _ _ upd_same, last_raw hb h10, fun H3 F mx s cF h1 h2 => ⟨rfl, ?_⟩⟩
      rw [last_many hb cF h1 h2]
      have g1 := same_upd' (o := .ins c.CM dx (fM b t u ((b - 1 : Nat) : Int))) (s6.trans s) nx
      have g2 := (s2.trans (s3.trans (s4.trans s5))).trans g1
      have g3 := (s3.trans (s4.trans s5)).trans g1
      exact k _ x (sm.trans g2) ((sm.trans (s2.trans (s3.trans (s4.trans s5)))).free nx) ⟨dx, t, u, upd_same, (hR'.keep (Kp.of g2)).rows (g3 _ _ upd_same), g1 _ _ upd_same⟩
end
end Wb

set_option Elab.async false
set_option linter.all false
set_option maxRecDepth 100000
set_option maxHeartbeats 4000000
namespace Wb
open PySem PySem.Spec PyProof.Rows L2
/-! ### onward, a def within Machine.modulo -/
def sOn : Stmt := (defBody sMmod).getD 0 (.Pass ⟨0, 0, 0, 0⟩)
def pr (q : Nat × Nat) : List V := [ni q.1, ni q.2]
abbrev frOn : List Str := ["base", "modulus"]
abbrev nOn : List Str := ["state", "digit", "base", "modulus", "rest", "power"]
theorem scOn : NdefX.NScope nOn ["state", "digit"] frOn (C8.fnScope sOn) := NdefX.nscope_by (by decide +kernel)
def spOn (ws : List (Option V)) : Sp := fun vs H Q _ => ∃ (t : Addr) (q : Nat × Nat) (d b m : Nat), ws = [some (ni b), some (ni m)] ∧ vs = [.ref t, ni d] ∧ H t = some (.tup (pr q)) ∧ 0 < m ∧ m ≤ 12 ∧ q.2 < m ∧ d ≤ 100 ∧ ∀ p, H p = none → Q (.ref p) (upd H p (.tup (pr (stepM b m q d))))
section
variable {P : Program} {w : World} {K : PySem.W.Frag} {mg : Str → Option Value} {base : Heap} {c : CC} {f : Addr}
theorem nok_On (qu : Str) (cl : List (Str × Addr)) (c' : Addr) : NdefX.NOk P w K mg base CX0 1 f (NdefX.NF.of sOn "onward" qu cl c') ["state", "digit"] frOn spOn := by
  refine NdefX.nok_of (N := nOn) scOn (fun doc pm ctv us hl => match us, hl with | [_, _], _ => rfl) (fun ws vs H Q E h => ?_) (fun A outer s H vs ws Q E hr _ _ _ h => ?_)
  · obtain ⟨_, _, _, _, _, _, rfl, _⟩ := h
    rfl
  · obtain ⟨t, q, d, b, m, rfl, rfl, ht, hm, hm2, hq, hd, k⟩ := h
    refine ⟨_, pss_cons (ps_asg (pv 0) (pg_tup rfl (pgs_cons (pg_name (i := 4) scOn.nd rfl (.inl rfl)) (pgs_cons (pg_name (i := 5) scOn.nd rfl (.inl rfl)) pgs_nil))))
      (pss_one (ps_ret (pe_tup (pa_cons (pe_op op_mod (pe_op op_add (pv 4) (pe_op op_mul (pv 1) (pv 5))) (pv 3)) (pa_cons (pe_op op_mod (pe_op op_mul (pv 5) (pv 2)) (pv 3)) pa_nil))))), ?_⟩
    refine ⟨_, rfl, t, _, rfl, SqT.of ht, rfl, _, _, rfl, _, _, rfl, rfl, ?_⟩
    refine ⟨_, rfl, _, rfl, _, rfl, _, _, rfl, rfl, .inl ⟨by omega, by omega⟩, _, _, rfl, rfl, _, rfl, _, _, rfl, rfl, by omega, ?_⟩
    refine ⟨_, rfl, _, rfl, _, _, rfl, rfl, .inl ⟨by omega, by omega⟩, _, rfl, _, _, rfl, rfl, by omega, small_line (Nat.le_of_ble_eq_true rfl), fun p hp => ?_⟩
    show Q _ (upd H p (.tup [V.int (((q.1 : Int) + (d : Int) * (q.2 : Int)) % (m : Int)), V.int (((q.2 : Int) * (b : Int)) % (m : Int))]))
    rw [← Int.natCast_mul, ← Int.natCast_add, modc, ← Int.natCast_mul, modc]
    exact k p hp
end
end Wb

set_option Elab.async false
set_option linter.all false
set_option maxRecDepth 100000
set_option maxHeartbeats 4000000
namespace Wb
open PySem PySem.Spec PyProof.Rows L2
def kq (q : Nat × Nat) : List Key := [Sum.inl (q.1 : Int), Sum.inl (q.2 : Int)]
theorem kq_pr (q : Nat × Nat) : (kq q).map kV = pr q := rfl
theorem kq_inj {q r : Nat × Nat} (h : kq q = kq r) : q = r := by
  unfold kq at h
  simp only [List.cons.injEq, Sum.inl.injEq, and_true] at h
  exact Prod.ext (by omega) (by omega)
/-- the dict tells where each state lies -/
structure KvOk (kvs : List (List Key × V)) (st : List (Nat × Nat)) : Prop where
  len : kvs.length = st.length
  some_ : ∀ q v, valV kvs (kq q) = some v → ∃ i, i < st.length ∧ gp st i = q ∧ v = ni i
  none_ : ∀ q, valV kvs (kq q) = none → q ∉ st
theorem KvOk.start (q : Nat × Nat) : KvOk [(kq q, ni 0)] [q] := by
  refine ⟨rfl, fun r v h => ?_, fun r h => ?_⟩
  · by_cases z : kq q = kq r
    · rw [valV_pos (p := (kq q, ni 0)) z] at h
      exact ⟨0, by simp, by rw [← kq_inj z]; rfl, (Option.some.inj h).symm⟩
    · rw [valV_neg (p := (kq q, ni 0)) z] at h
      cases h
  · intro hm
    simp at hm
    subst hm
    rw [valV_pos (p := (kq r, ni 0)) rfl] at h
    cases h
theorem KvOk.put {kvs : List (List Key × V)} {st : List (Nat × Nat)} {q : Nat × Nat} (k : KvOk kvs st) (h : valV kvs (kq q) = none) : KvOk (putK kvs (kq q) (ni st.length)) (st ++ [q]) := by
  rw [putK_new _ h]
  refine ⟨by rw [List.length_append, List.length_append, k.len]; rfl, fun r v e => ?_, fun r e => ?_⟩
  · rw [valV_snoc _ _ _ _ h] at e
    by_cases z : kq r = kq q
    · rw [if_pos z] at e
      exact ⟨st.length, by rw [List.length_append]; exact Nat.lt_succ_self _, by rw [gp_end, kq_inj z], (Option.some.inj e).symm⟩
    · rw [if_neg z] at e
      obtain ⟨i, h1, h2, h3⟩ := k.some_ r v e
      exact ⟨i, by rw [List.length_append]; exact Nat.lt_succ_of_lt h1, by rw [gp_app h1]; exact h2, h3⟩
  · rw [valV_snoc _ _ _ _ h] at e
    by_cases z : kq r = kq q
    · rw [if_pos z] at e; cases e
    · rw [if_neg z] at e
      intro hm
      rcases List.mem_append.mp hm with hm | hm
      · exact k.none_ r e hm
      · simp at hm
        subst hm
        exact z rfl
/-- states that a list of references tells -/
def PRefs (H : Hp) (rs : List Addr) (st : List (Nat × Nat)) : Prop := rs.length = st.length ∧ ∀ i r, rs[i]? = some r → H r = some (.tup (pr (gp st i)))
theorem PRefs.keep {H H' : Hp} {rs : List Addr} {st : List (Nat × Nat)} (h : PRefs H rs st) (k : Kp H H') : PRefs H' rs st := ⟨h.1, fun i r e => k _ _ (h.2 i r e) True.intro⟩
theorem PRefs.push {H : Hp} {rs : List Addr} {st : List (Nat × Nat)} {r : Addr} {q : Nat × Nat} (h : PRefs H rs st) (hr : H r = some (.tup (pr q))) : PRefs H (rs ++ [r]) (st ++ [q]) := by
  refine ⟨by rw [List.length_append, List.length_append, h.1]; rfl, fun i x e => ?_⟩
  by_cases z : i < rs.length
  · rw [List.getElem?_append_left z] at e
    rw [gp_app (by rw [← h.1]; exact z)]
    exact h.2 i x e
  · rw [List.getElem?_append_right (by omega)] at e
    have z1 : i - rs.length = 0 := by
      have := (List.getElem?_eq_some_iff.mp e).1
      simp at this
      omega
    rw [z1] at e
    obtain rfl : r = x := by simpa using e
    have z2 : i = st.length := by rw [← h.1]; omega
    rw [z2, gp_end]
    exact hr
section
variable {P : Program} {w : World} {K : PySem.W.Frag} {mg : Str → Option Value} {base : Heap} {c : CC} {f : Addr}
/-! ### explored -/
def GX (P : Program) (w : World) (K : PySem.W.Frag) (mg : Str → Option Value) (base : Heap) (g : Addr) (F : NdefX.NF) (b m : Nat) : GS := fun A outer h H vs => NdefX.NOk P w K mg base CX0 1 g F ["state", "digit"] frOn spOn ∧
  NdefX.CellsAt F.cl frOn [some (ni b), some (ni m)] h H ∧ ∀ y c, F.cl.lookup y = some c → c ∉ frs outer
def spExp (g : Addr) (F : NdefX.NF) (b m : Nat) : Sp := fun vs H Q _ => ∃ t : Addr, vs = [ni b, .ref t, .ref g] ∧ H t = some (.tup (pr (0, 1 % m))) ∧ H g = some (NdefX.FnO g F) ∧ H F.c = some (LamX.CodeO F.c F.qual) ∧ 2 ≤ b ∧ b ≤ 10 ∧ 0 < m ∧ m ≤ 12 ∧
  ∀ (H' : Hp) (a t1 t2 : Addr) (rs qs : List Addr) (st : List (Nat × Nat)) (S : List (List Nat)), Same H H' → H' a = some (.tup [.ref t1, .ref t2]) → H' t1 = some (.tup (qs.map V.ref)) → Refs H' qs S → H' t2 = some (.tup (rs.map V.ref)) → PRefs H' rs st → Expl b m st S → Q (.ref a) H'
/-- the loop over the states, and the one within -/
def EW (H : Hp) (t g : Addr) (b m n : Nat) (sg : L2.St) (H' : Hp) : Prop := ∃ (st : List (Nat × Nat)) (S : List (List Nat)) (sl d tl : Addr) (rs qs : List Addr) (kvs : List (List Key × V)) (o6 o7 o8 o9 : Option V), n = m * m - S.length ∧ EInv b m st S ∧ Same H H' ∧
  H sl = none ∧ H d = none ∧ H tl = none ∧ sl ≠ tl ∧ H' sl = some (.lst (rs.map V.ref)) ∧ PRefs H' rs st ∧ H' tl = some (.lst (qs.map V.ref)) ∧ Refs H' qs S ∧ H' d = some (.dT kvs) ∧ KvOk kvs st ∧
  sg = [some (ni b), some (.ref t), some (.ref g), some (.ref sl), some (.ref d), some (.ref tl), o6, o7, o8, o9]
def IW (H : Hp) (t g sl d tl r0 rl : Addr) (qs : List Addr) (S : List (List Nat)) (q0 : Nat × Nat) (b m i : Nat) (sg : L2.St) (H' : Hp) : Prop := ∃ (st : List (Nat × Nat)) (row : List Nat) (rs : List Addr) (kvs : List (List Key × V)) (o8 o9 : Option V),
  EInv b m st S ∧ S.length < st.length ∧ gp st S.length = q0 ∧ RowTo b m st q0 row i ∧ Same H H' ∧ H' r0 = some (.tup (pr q0)) ∧
  H' sl = some (.lst (rs.map V.ref)) ∧ PRefs H' rs st ∧ H' tl = some (.lst (qs.map V.ref)) ∧ Refs H' qs S ∧ H' d = some (.dT kvs) ∧ KvOk kvs st ∧ H' rl = some (.lst (row.map ni)) ∧
  sg = [some (ni b), some (.ref t), some (.ref g), some (.ref sl), some (.ref d), some (.ref tl), some (.ref r0), some (.ref rl), o8, o9]
abbrev nExp : List Str := ["base", "first", "onward", "states", "places", "steps", "state", "row", "digit", "after"]
theorem scExp : FnScope nExp ["base", "first", "onward"] (defScope sExp) := ⟨rfl, rfl, rfl, by decide +kernel, rfl, by decide +kernel, by decide +kernel⟩
theorem bdExp : BindsSt "explored" "explored" sExp ["base", "first", "onward"] := fun _ _ _ _ _ _ us hl => match us, hl with | [_, _, _], _ => rfl
theorem ok_Exp {g : Addr} {F : NdefX.NF} {b m : Nat} (B : TB mg) (D : Df K "explored" "explored" sExp f) : FnS P w K mg base 2 f (GX P w K mg base g F b m) (spExp g F b m) := by
  refine D.okS scExp bdExp (fun vs H Q E h => ?_) (fun cdv A outer s H vs Q hr e0 gx h => ?_)
  · obtain ⟨_, rfl, _⟩ := h
    rfl
  · obtain ⟨t, rfl, ht, hg, hgc, hb, h10, hm, h12, k⟩ := h
    obtain ⟨gn, gc, gf⟩ := gx
    have hu := hu_of hr
    refine ⟨_, pss_cons (ps_par3 (i := 3) (j := 4) (l := 5) rfl scExp.nd rfl rfl rfl (by decide) (by decide) (by decide) rfl rfl rfl (pa_cons (pe_lst (pa_cons (pv 1) pa_nil)) (pa_cons (pe_disp1 hu (pv 1) pe_int) (pa_cons (pe_lst pa_nil) pa_nil))) rfl)
      (pss_cons (ps_while PassesOwn.never (pt_cmpR op_lt (pe_callB call_len_seq (by rfl) B.len PySem.boot_len (pa_cons (pv 5) pa_nil)) (pe_callB call_len_seq (by rfl) B.len PySem.boot_len (pa_cons (pv 3) pa_nil)) (nomark _))
        (pss_cons (ps_par (i := 6) (j := 7) rfl scExp.nd rfl rfl (by decide) rfl rfl (pa_cons (pe_ix ix_list (pv 3) (pe_callB call_len_seq (by rfl) B.len PySem.boot_len (pa_cons (pv 5) pa_nil)) (fun _ _ => rfl)) (pa_cons (pe_lst pa_nil) pa_nil)) rfl)
        (pss_cons (ps_for PassesOwn.never rfl (pi_range1 (by rfl) B.range (pa_cons (pv 0) pa_nil)) (pg_name (i := 8) scExp.nd rfl (.inl rfl))
          (pss_cons (ps_set (i := 9) scExp.nd rfl (.inl rfl) (pe_callC (i := 2) gn gc gf rfl hr rfl (.inl rfl) (pa_cons (pv 6) (pa_cons (pv 8) pa_nil))))
          (pss_cons (ps_if (pt_cmp (pc_dnotin hu (pv 9) (pv 4)))
            (pss_cons (ps_dput hu (pv 4) (pv 9) (pe_callB call_len_seq (by rfl) B.len PySem.boot_len (pa_cons (pv 3) pa_nil)) rfl)
            (pss_one (ps_expr (pe_bm PySem.F.plainAttrs_list PySem.F.slot_list_append PySem.F.type_list_append mt_append (pv 3) (pa_cons (pv 9) pa_nil))))) pss_nil)
          (pss_one (ps_expr (pe_bm PySem.F.plainAttrs_list PySem.F.slot_list_append PySem.F.type_list_append mt_append (pv 7) (pa_cons (pe_dget hu (pv 4) (pv 9) (fun _ _ => rfl)) pa_nil)))))))
        (pss_one (ps_expr (pe_bm PySem.F.plainAttrs_list PySem.F.slot_list_append PySem.F.type_list_append mt_append (pv 5) (pa_cons (pe_tupleOf (by rfl) B.tuple (pv 7)) pa_nil)))))))
      (pss_one (ps_ret (pe_tup (pa_cons (pe_tupleOf (by rfl) B.tuple (pv 5)) (pa_cons (pe_tupleOf (by rfl) B.tuple (pv 3)) pa_nil)))))), ?_⟩
    refine ⟨_, rfl, small_line (Nat.le_of_ble_eq_true rfl), fun sl hsl => ?_⟩
    have s1 := same_upd (o := .lst [V.ref t]) hsl
    refine fun d hd => ⟨_, rfl, t, kq (0, 1 % m), rfl, ?_, upd_same, small_line (Nat.le_of_ble_eq_true rfl), fun tl htl => ⟨_, _, _, rfl, ?_⟩⟩
    · exact same_upd (o := .dT []) hd _ _ (s1 _ _ ht)
    rw [upd_upd] at htl ⊢
    have s2 := same_upd (o := .dT [(kq (0, 1 % m), V.int 0)]) hd
    have s3 := same_upd (o := .lst []) htl
    refine ⟨EW H t g b m, ⟨_, [(0, 1 % m)], [], sl, d, tl, [t], [], [(kq (0, 1 % m), ni 0)], none, none, none, none, rfl, EInv.start hm, (s1.trans s2).trans s3, hsl, s1.free hd, (s1.trans s2).free htl, ?_, s3 _ _ (s2 _ _ upd_same), ⟨rfl, fun i r e => ?_⟩, upd_same, Refs.nil, s3 _ _ upd_same, KvOk.start _, rfl⟩, ?_⟩
    · rintro rfl
      have z := s2 _ _ (upd_same (H := H) (a := sl) (o := .lst [V.ref t]))
      rw [z] at htl
      cases htl
    · cases i with
      | zero =>
        obtain rfl : t = r := by simpa using e
        exact s3 _ _ (s2 _ _ (s1 _ _ ht))
      | succ i => simp at e
    clear s1 s2 s3 hsl hd htl
    rintro n sg H1 ⟨st, S, sl, d, tl, rs, qs, kvs, o6, o7, o8, o9, rfl, EI, sm, nsl, nd, ntl, slt, hsl, hR, htl, hQ, hd, hkv, rfl⟩
    have hsz := EI.size
    have hle := EI.le
    have hmm : m * m ≤ 144 := Nat.mul_le_mul h12 h12
    refine ⟨_, rfl, tl, _, rfl, .inl (SqL.of htl), _, rfl, sl, _, rfl, .inl (SqL.of hsl), _, _, rfl, rfl, _, rfl, ?_⟩
    refine ite2 (fun h => ?_) (fun h => ?_)
    · have hlt : S.length < st.length := by
        have h := of_decide_eq_true h
        rw [List.length_map, List.length_map, hQ.1, hR.1] at h
        omega
      obtain ⟨r0, hr0⟩ : ∃ r, rs[S.length]? = some r := ⟨_, List.getElem?_eq_getElem (by rw [hR.1]; exact hlt)⟩
      refine ⟨EW H t g b m (m * m - (S.length + 1)), fun sg' H' z => ⟨_, by omega, z⟩, ?_⟩
      refine ⟨_, rfl, _, rfl, tl, _, rfl, .inl (SqL.of htl), sl, _, ((S.length : Nat) : Int), .ref r0, rfl, by rw [List.length_map, hQ.1], SqL.of hsl, atI_nat (by rw [List.getElem?_map, hr0]; rfl), small_line (Nat.le_of_ble_eq_true rfl), fun rl hrl => ⟨_, _, rfl, ?_⟩⟩
      have s1 := same_upd (o := .lst []) hrl
      have nrl : H rl = none := sm.free hrl
      have rl1 : rl ≠ sl := by rintro rfl; rw [hsl] at hrl; cases hrl
      have rl2 : rl ≠ tl := by rintro rfl; rw [htl] at hrl; cases hrl
      have rl3 : rl ≠ d := by rintro rfl; rw [hd] at hrl; cases hrl
      refine ⟨_, rfl, (b : Int), rfl, by omega, by omega, ?_⟩
      rw [Int.toNat_natCast]
      refine for_range (lo := 0) (n := b) (fun i sg H' => IW H t g sl d tl r0 rl qs S (gp st S.length) b m i sg H') ⟨st, [], rs, kvs, o8, o9, EI, hlt, rfl, RowTo.nil, sm.trans s1, s1 _ _ (hR.2 _ _ hr0), s1 _ _ hsl, hR.keep (Kp.of s1), s1 _ _ htl, hQ.keep (Kp.of s1), s1 _ _ hd, hkv, upd_same, rfl⟩ ?_ ?_
      · clear hsz hle hR hkv hd hsl htl hQ hr0 EI hlt sm hrl s1 h
        rintro i sg H' hi ⟨st', row, rs, kvs, o8, o9, EI, hlt, hq0, RT, sm, hr0, hsl, hR, htl, hQ, hd, hkv, hrl, rfl⟩
        have q0s := (EI.small (gp st S.length) (by rw [← hq0]; exact gp_mem hlt)).2
        refine ⟨rfl, sm _ _ hg, _, rfl, _, rfl, sm _ _ hg, sm _ _ hgc, r0, gp st S.length, i, b, m, rfl, ?_, hr0, hm, h12, q0s, by omega, fun p hp => ?_⟩
        · show [V.ref r0, V.int (0 + (i : Int))] = _
          rw [Int.zero_add]; rfl
        have s2 := same_upd (o := .tup (pr (stepM b m (gp st S.length) i))) hp
        have hp2 : upd H' p (.tup (pr (stepM b m (gp st S.length) i))) p = some (.tup (pr (stepM b m (gp st S.length) i))) := upd_same
        have hsl2 := s2 _ _ hsl
        have htl2 := s2 _ _ htl
        have hd2 := s2 _ _ hd
        have hrl2 := s2 _ _ hrl
        have hr02 := s2 _ _ hr0
        have hR2 := hR.keep (Kp.of s2)
        have hQ2 := hQ.keep (Kp.of s2)
        have sm2 := sm.trans s2
        clear s2 hsl htl hd hrl hr0 hR hQ sm hp
        revert hp2 hsl2 htl2 hd2 hrl2 hr02 hR2 hQ2 sm2
        generalize upd H' p (.tup (pr (stepM b m (gp st S.length) i))) = H2
        intro hp hsl htl hd hrl hr0 hR hQ sm
        clear H'
        have hsz := EI.size
        have rln := RT.len
        refine ⟨_, rfl, _, rfl, d, _, rfl, DGet.t (k := kq (stepM b m (gp st S.length) i)) hd hp, _, rfl, ?_⟩
        cases e : valV kvs (kq (stepM b m (gp st S.length) i)) with
        | none =>
          refine iteT ?_
          have hd3 : DPut H2 d (.ref p) (ni st'.length) _ := DPut.t (k := kq (stepM b m (gp st S.length) i)) (v := ni st'.length) hd hp (small_line' (by rw [hkv.len]; omega))
          have k3 := kp_upd (o := .dT (putK kvs (kq (stepM b m (gp st S.length) i)) (ni st'.length))) hd id
          have hlen : V.int ((rs.map V.ref).length : Int) = ni st'.length := by rw [List.length_map, hR.1]; rfl
          refine ⟨_, rfl, sl, _, rfl, .inl (SqL.of hsl), _, rfl, _, rfl, d, _, rfl, by rw [hlen]; exact hd3, ?_⟩
          have sld : sl ≠ d := by rintro rfl; rw [hsl] at hd; cases hd
          have tld : tl ≠ d := by rintro rfl; rw [htl] at hd; cases hd
          have hsl3 : upd H2 d (.dT (putK kvs (kq (stepM b m (gp st S.length) i)) (ni st'.length))) sl = _ := (upd_ne sld).trans hsl
          refine ⟨_, rfl, .inl ⟨rfl, _, SqL.of hsl3⟩, _, rfl, sl, _, .ref p, rfl, rfl, hsl3, small_line' (by rw [List.length_map, hR.1]; omega), ?_⟩
          have k4 := k3.trans (kp_upd (o := .lst (rs.map V.ref ++ [V.ref p])) hsl3 id)
          have EI' := EI.grow (b := b) (q := stepM b m (gp st S.length) i) (hkv.none_ _ e) (stepM_small hm)
          have kv' := hkv.put e
          have hd4 : upd (upd H2 d (.dT (putK kvs (kq (stepM b m (gp st S.length) i)) (ni st'.length)))) sl (.lst (rs.map V.ref ++ [V.ref p])) d = _ := (upd_ne sld.symm).trans upd_same
          have hrl4 : upd (upd H2 d (.dT (putK kvs (kq (stepM b m (gp st S.length) i)) (ni st'.length)))) sl (.lst (rs.map V.ref ++ [V.ref p])) rl = _ := (upd_ne rl1).trans ((upd_ne rl3).trans hrl)
          have hg4 : DGet (upd (upd H2 d (.dT (putK kvs (kq (stepM b m (gp st S.length) i)) (ni st'.length)))) sl (.lst (rs.map V.ref ++ [V.ref p]))) d (.ref p) (some (ni st'.length)) := by
            have z := DGet.t (k := kq (stepM b m (gp st S.length) i)) hd4 (k4 _ _ hp True.intro)
            rw [valV_put, if_pos rfl] at z
            exact z
          refine ⟨_, rfl, .inl ⟨rfl, _, SqL.of hrl4⟩, _, rfl, _, rfl, d, _, rfl, hg4, rl, _, _, rfl, rfl, hrl4, small_line' (by rw [List.length_map]; omega), ?_⟩
          have k5 := k4.trans (kp_upd (o := .lst (row.map ni ++ [ni st'.length])) hrl4 id)
          refine ⟨st' ++ [stepM b m (gp st S.length) i], row ++ [st'.length], rs ++ [p], _, _, _, EI', by rw [List.length_append]; exact Nat.lt_succ_of_lt hlt, by rw [gp_app hlt]; exact hq0, RT.grow.push (by rw [List.length_append]; exact Nat.lt_succ_self _) gp_end, same_upd' (same_upd' (same_upd' sm nd) nsl) nrl, k5 _ _ hr0 True.intro, ?_, (hR.keep k5).push (k5 _ _ hp True.intro), ?_, hQ.keep k5, ?_, kv', ?_, rfl⟩
          · rw [upd_ne rl1.symm, upd_same, List.map_append]; rfl
          · rw [upd_ne rl2.symm, upd_ne slt.symm, upd_ne tld]; exact htl
          · rw [upd_ne rl3.symm]; exact hd4
          · rw [upd_same, List.map_append]; rfl
        | some v =>
          refine iteF ?_
          obtain ⟨x, hx1, hx2, rfl⟩ := hkv.some_ _ _ e
          have hg4 : DGet H2 d (.ref p) (some (ni x)) := by
            have z := DGet.t (k := kq (stepM b m (gp st S.length) i)) hd hp
            rw [e] at z
            exact z
          refine ⟨_, rfl, .inl ⟨rfl, _, SqL.of hrl⟩, _, rfl, _, rfl, d, _, rfl, hg4, rl, _, _, rfl, rfl, hrl, small_line' (by rw [List.length_map]; omega), ?_⟩
          have k5 := kp_upd (o := .lst (row.map ni ++ [ni x])) hrl id
          refine ⟨st', row ++ [x], rs, kvs, _, _, EI, hlt, hq0, RT.push hx1 hx2, same_upd' sm nrl, k5 _ _ hr0 True.intro, by rw [upd_ne rl1.symm]; exact hsl, hR.keep k5, by rw [upd_ne rl2.symm]; exact htl, hQ.keep k5, by rw [upd_ne rl3.symm]; exact hd, hkv, ?_, rfl⟩
          rw [upd_same, List.map_append]; rfl
      · rintro sg H' ⟨st', row, rs, kvs, o8, o9, EI, hlt, hq0, RT, sm, hr0, hsl, hR, htl, hQ, hd, hkv, hrl, rfl⟩
        have hsz := EI.size
        refine ⟨_, rfl, .inl ⟨rfl, _, SqL.of htl⟩, _, rfl, .inl ⟨rl, _, rfl, SqL.of hrl, fun q hq => ?_⟩⟩
        have s2 := same_upd (o := .tup (row.map ni)) hq
        have htl2 := s2 _ _ htl
        refine ⟨tl, _, .ref q, rfl, rfl, htl2, small_line' (by rw [List.length_map, hQ.1]; omega), ?_⟩
        have k2 := kp_upd (o := .lst (qs.map V.ref ++ [V.ref q])) htl2 id
        have k3 := (Kp.of s2).trans k2
        have tld : tl ≠ d := by rintro rfl; rw [htl] at hd; cases hd
        refine ⟨st', S ++ [row], sl, d, tl, rs, qs ++ [q], kvs, _, _, _, _, by rw [List.length_append]; rfl, EI.row hlt (by rw [hq0]; exact RT), same_upd' (sm.trans s2) ntl, nsl, nd, ntl, slt, ?_, hR.keep k3, ?_, (hQ.keep k3).app (Refs.one (k2 _ _ upd_same True.intro)), ?_, hkv, rfl⟩
        · rw [upd_ne slt]; exact s2 _ _ hsl
        · rw [upd_same, List.map_append]; rfl
        · rw [upd_ne tld.symm]; exact s2 _ _ hd
    · have hnl : ¬ S.length < st.length := fun z => h (decide_eq_true (by rw [List.length_map, List.length_map, hQ.1, hR.1]; omega))
      refine ⟨_, rfl, .inl ⟨tl, _, rfl, SqL.of htl, fun t1 ht1 => ?_⟩⟩
      have s1 := same_upd (o := .tup (qs.map V.ref)) ht1
      refine ⟨_, rfl, .inl ⟨sl, _, rfl, SqL.of (s1 _ _ hsl), fun t2 ht2 => ?_⟩⟩
      have s2 := same_upd (o := .tup (rs.map V.ref)) ht2
      refine ⟨small_line (Nat.le_of_ble_eq_true rfl), fun a ha => ?_⟩
      have s3 := same_upd (o := .tup [V.ref t1, V.ref t2]) ha
      have s4 := (s1.trans s2).trans s3
      exact k _ a t1 t2 rs qs st S (sm.trans s4) upd_same (s3 _ _ (s2 _ _ upd_same)) (hQ.keep (Kp.of s4)) (s3 _ _ upd_same) (hR.keep (Kp.of s4)) (EI.done hnl)
end
end Wb

set_option Elab.async false
set_option linter.all false
set_option maxRecDepth 100000
set_option maxHeartbeats 4000000
namespace Wb
open PySem PySem.Spec PyProof.Rows L2
/-! ### a def whose code object is told -/
def DfC (K : PySem.W.Frag) (x qual : Str) (st : Stmt) (f cm : Addr) : Prop := PySem.W.keepIn K (.ref f) = true ∧ ∃ (oc : Value) (od : Option Addr) (kV doc pm : Value) (an : Option Addr) (ct : Value) (osl : Array (Option Value)),
  K.lookup f = some ⟨oc, od, .func (PySem.W.fnOf x qual (defArgs st) (defBody st) (defScope st) .none kV doc pm an (.ref cm) ct), osl⟩ ∧ PySem.W.codeIn K (.ref cm) qual = true
theorem DfC.df {K : PySem.W.Frag} {x qual : Str} {st : Stmt} {f cm : Addr} (D : DfC K x qual st f cm) : Df K x qual st f := by
  obtain ⟨kp, oc, od, kV, doc, pm, an, ct, osl, lk, hcd⟩ := D
  exact ⟨_, ⟨⟨oc, od, kV, doc, pm, an, _, ct, osl, rfl, lk, hcd⟩, kp⟩⟩
section
variable {P : Program} {w : World} {K : PySem.W.Frag} {mg : Str → Option Value} {base : Heap} {x qual : Str} {st : Stmt} {f cm : Addr} {N ps : List Str} {k : Nat} {sp : Sp}
theorem DfC.okR (D : DfC K x qual st f cm) (S : FnScope N ps (defScope st)) (hb : BindsSt x qual st ps) (len : ∀ vs H Q E, sp vs H Q E → vs.length = ps.length)
    (body : ∀ (A : Around) (outer : List Env) (s : Shared) (H : Hp) (vs : List V) (Q : VK) (E : XK), Room k (A.deeper (envOfC qual (defScope st) s.heap.objs.size f (.ref cm))) → sp vs H Q E →
      ∃ t, PSs (cxOf CX0 P w K mg base N qual (defScope st) f (.ref cm) A outer s H E).nox (defBody st) t ∧ t { nx := fun _ H' => Q .non H', rt := Q } (start N vs) H) : FnR P w K mg base CX0 (k + 1) f sp := by
  intro A outer s H us vs Q E hr e0 r h
  obtain ⟨kp, oc, od, kV, doc, pm, an, ct, osl, lk, hcd⟩ := D
  have hl := len _ _ _ _ h
  have hbd := hb kV doc pm an (.ref cm) ct us (by rw [← r.length]; exact hl)
  refine LamX.run_ofS lk hcd S hr e0 (.of_eq hbd) r hl fun hr' => ?_
  obtain ⟨t, ht, q⟩ := body A outer s H vs Q E hr' h
  exact ⟨t, ht.nox, q⟩
end
/-! ### a call of a def by a family of promises told of the state -/
section
variable {X : Cx} {k : Nat} {f : Addr} {ι : Type} {sp : ι → Sp} {G : ι → GS} {x : Str} {p pos : Pos} {e : Expr} {es : List Expr} {t : TA}
def tCallI (G' : ι → L2.St → Hp → List V → Prop) (sp : ι → Sp) (t : TA) : TE := fun sg H Q => t sg H fun vs H1 => ∃ i, G' i sg H1 vs ∧ sp i vs H1 Q E0
theorem pe_callI {G' : ι → L2.St → Hp → List V → Prop} (F : ∀ i, FnS X.prog X.w X.K X.mg X.base k f (G i) (sp i)) (hG : ∀ i pins s sg H vs, Inv X pins sg H s → G' i sg H vs → G i X.A X.stack s.heap H vs) (hr : Room k X.A) (hg : Gl X x) (hm : X.mg x = some (.ref f)) (hk : PySem.W.keepIn X.K (.ref f) = true)
    (ha : PA X (e :: es) t) (hdb : (x == ("__debug__" : Str)) = false := by decide) (hse : starEach (e :: es) X.env = (false, eval e X.env) :: starEach es X.env := by rfl) (hpl : (backTo pos (starEach es X.env)).any (·.1) = false := by rfl) :
    PE X (.Call (.Name x p) (e :: es) [] pos) (tCallI G' sp t) := by
  refine ⟨fun pins s sg H Q I h => wpAny_Call_Name_kw (ld_glob I hg hm ?_ hdb)⟩
  exact PySem.W.callWith_K (h₀ := X.base) I.ok.mod.kin hk (thn (ha.run pos pins s sg H _ I h) fun us s1 ⟨vs, H1, I1, r, i, g, q⟩ => ⟨I1.kIn, run_fnS (F i) hr I1 r (hG i _ _ _ _ _ I1 g) q⟩) hse hpl
end
/-! ### what stands still but for the table of code objects -/
abbrev nmOn : Nat → Nat → Str := fun _ _ => "Machine.modulo.<locals>.onward"
structure Ex (tb : Addr) (H H' : Hp) : Prop where
  ext : LamX.ExtN H H'
  non : ∀ b, H' b = none → H b = none
  tab : NdefX.TabN H tb nmOn → NdefX.TabN H' tb nmOn
theorem Ex.of {tb : Addr} {H H' : Hp} (s : Same H H') : Ex tb H H' := ⟨fun b o e _ => s b o e, fun b e => s.free e, fun t => t.ext s⟩
theorem Ex.trans {tb : Addr} {H H1 H2 : Hp} (a : Ex tb H H1) (b : Ex tb H1 H2) : Ex tb H H2 := ⟨fun c o e n => b.ext c o (a.ext c o e n) n, fun c e => a.non c (b.non c e), fun t => b.tab (a.tab t)⟩
theorem Ex.kp {tb : Addr} {H H' : Hp} (e : Ex tb H H') : Kp H H' := fun b o h z => e.ext b o h fun ps q => by subst q; exact z
section
variable {P : Program} {w : World} {K : PySem.W.Frag} {mg : Str → Option Value} {base : Heap} {c : CC} {f fMI fr fps fex cm tb : Addr}
/-! ### Machine.modulo -/
def spMmod (c : CC) (tb : Addr) : Sp := fun vs H Q _ => ∃ b m : Nat, vs = [ni b, ni m] ∧ 2 ≤ b ∧ b ≤ 10 ∧ 1 ≤ m ∧ m ≤ 12 ∧ NdefX.TabN H tb nmOn ∧
  ∀ (H' : Hp) (a : Addr) (st : List (Nat × Nat)) (S : List (List Nat)), Ex tb H H' → H a = none → Expl b m st S → MachAt c.CM H' a (modM b m st S) → Q (.ref a) H'
abbrev nMmod : List Str := ["base", "modulus", "onward", "steps", "states", "rest", "power"]
theorem scMmod : FnScope nMmod ["base", "modulus"] (defScope sMmod) := ⟨rfl, rfl, rfl, by decide +kernel, rfl, by decide +kernel, by decide +kernel⟩
theorem bdMmod : BindsSt "modulo" "Machine.modulo" sMmod ["base", "modulus"] := fun _ _ _ _ _ _ us hl => match us, hl with | [_, _], _ => rfl
theorem mod_many {b m mx : Nat} {F : List Nat} {st : List (Nat × Nat)} {S : List (List Nat)} (e : Expl b m st S) (hb : 2 ≤ b) (hm : 1 ≤ m) (cF : Closed S b F) (h1 : ∃ s, s ∈ F ∧ (modB st).getD s 0 = mx) (h2 : ∀ s, s ∈ F → (modB st).getD s 0 ≤ mx) : mx + 1 = m := by
  obtain ⟨s, hs, rfl⟩ := h1
  obtain ⟨t, ht, q⟩ := e.top hb hm cF
  have := h2 t ht
  have l := cF.lt s hs
  rw [e.len] at l
  have := e.box_le l
  omega
abbrev XMo (P : Program) (w : World) (K : PySem.W.Frag) (mg : Str → Option Value) (base : Heap) (f cm : Addr) (A : Around) (outer : List Env) (s : Shared) (H : Hp) (E : XK) : Cx := (cxOf CX0 P w K mg base nMmod "Machine.modulo" (defScope sMmod) f (.ref cm) A outer s H E).nox
abbrev mkOn (P : Program) (w : World) (K : PySem.W.Frag) (mg : Str → Option Value) (base : Heap) (f cm : Addr) (A : Around) (outer : List Env) (s : Shared) (H : Hp) (E : XK) (c' : Addr) : NdefX.NF :=
  NdefX.NF.of sOn "onward" ((XMo P w K mg base f cm A outer s H E).env.qual ++ "onward") (cloFrom (XMo P w K mg base f cm A outer s H E).env.cells (C8.fnScope sOn).names []) c'
theorem ok_Mmod (T : TS K mg c) (B : TB mg) (M : TMa K mg c fMI fr fps) (De : Df K "explored" "explored" sExp fex) (me : mg "explored" = some (.ref fex)) (D : DfC K "modulo" "Machine.modulo" sMmod f cm) (TBl : LamX.TabB base mg cm tb) : FnR P w K mg base CX0 4 f (spMmod c tb) := by
  refine D.okR scMmod bdMmod (fun vs H Q E h => ?_) (fun A outer s H vs Q E hr h => ?_)
  · obtain ⟨_, _, rfl, _⟩ := h
    rfl
  · obtain ⟨b, m, rfl, hb, h10, hm, h12, hT, k⟩ := h
    have GI : FnR P w K mg base CX0 2 fMI (spMI c) := ok_MI T B M.dr M.mr M.dMI
    have hn : NdefX.ndefB (defScope sMmod) (C8.fnScope sOn) frOn = true := by decide +kernel
    have hf := NdefX.ndef_free hn
    have GE : ∀ i : Addr × Addr, FnS P w K mg base 2 fex (GX P w K mg base i.1 (mkOn P w K mg base f cm A outer s H E i.2) b m) (spExp i.1 (mkOn P w K mg base f cm A outer s H E i.2) b m) := fun i => ok_Exp B De
    have hG : ∀ (i : Addr × Addr) (pins : List (Addr × Obj)) (s' : Shared) (sg : L2.St) (H' : Hp) (vs : List V), Inv (XMo P w K mg base f cm A outer s H E) pins sg H' s' → (sg[0]? = some (some (ni b)) ∧ sg[1]? = some (some (ni m))) →
        GX P w K mg base i.1 (mkOn P w K mg base f cm A outer s H E i.2) b m (XMo P w K mg base f cm A outer s H E).A (XMo P w K mg base f cm A outer s H E).stack s'.heap H' vs := by
      intro i pins s' sg H' vs I hs
      have cp : NdefX.Caps (XMo P w K mg base f cm A outer s H E) (cloFrom (XMo P w K mg base f cm A outer s H E).env.cells (C8.fnScope sOn).names []) frOn [0, 1] := NdefX.Caps.made I.ok hf (NdefX.ndef_fr hn) rfl
      have q := NdefX.cells_of I cp
      have e : [0, 1].map (NdefX.slotAt sg) = [some (ni b), some (ni m)] := by
        show [NdefX.slotAt sg 0, NdefX.slotAt sg 1] = _
        rw [NdefX.slotAt_of hs.1, NdefX.slotAt_of hs.2]
      rw [e] at q
      exact ⟨nok_On _ _ _, q, fun y c e => cell_nofr I (fun _ => rfl) (cp.sub y c e)⟩
    refine ⟨_, pss_cons (NdefX.ps_ndefMS (st := sOn) (T := [(tb, nmOn)]) (nm := nmOn) (i := 2) (name := "onward") rfl TBl rfl (by simp) rfl (by simp) (NdefX.ndef_free hn) rfl rfl rfl scMmod.nd rfl (.inl rfl) (.inl rfl))
      (pss_cons (ps_asg (pe_callI (G' := fun (i : Addr × Addr) sg H' vs => sg[0]? = some (some (ni b)) ∧ sg[1]? = some (some (ni m))) GE hG (hr.mono (by decide)) (by rfl) me De.kp (pa_cons (pv 0) (pa_cons (pe_tup (pa_cons pe_int (pa_cons (pe_op op_mod pe_int (pv 1)) pa_nil))) (pa_cons (pv 2) pa_nil))))
        (pg_tup rfl (pgs_cons (pg_name (i := 3) scMmod.nd rfl (.inl rfl)) (pgs_cons (pg_name (i := 4) scMmod.nd rfl (.inl rfl)) pgs_nil))))
      (pss_one (ps_ret (StX.pe_makeR M.mkM GI hr rfl T.mgM pass0 (pa_cons (pv 0) (pa_cons (pv 3) (pa_cons (pe_tupleOf (by rfl) B.tuple (pe_lc (own := [("rest", 5), ("power", 6)]) (tt := tYes) rfl scMmod.nd (pi_tup (pv 4)) (blkOk_by (N := nMmod) (sc := defScope sMmod) (by decide +kernel))
        (fun _ _ _ _ _ => pg_tupK (K := K) (n := 2) rfl rfl (pgs_cons (pg_name (i := 5) scMmod.nd rfl (.inl rfl)) (pgs_cons (pg_name (i := 6) scMmod.nd rfl (.inl rfl)) pgs_nil))) (fun _ _ _ _ _ => pts_nil) (fun _ _ _ _ _ => pv 5))) pa_nil))))))), ?_⟩
    refine ⟨fun p hp => by rw [List.mem_singleton] at hp; subst hp; exact hT, fun g c' H1 eN nn T1 g0 g1 c1 => ?_⟩
    have X1 : Ex tb H H1 := ⟨eN, nn, fun _ => T1 (tb, nmOn) (by simp)⟩
    have em : V.int (1 % (m : Int)) = ni (1 % m) := by
      show V.int (((1 : Nat) : Int) % (m : Int)) = _
      rw [modc]; rfl
    refine ⟨_, rfl, _, rfl, _, _, rfl, rfl, by omega, small_line (Nat.le_of_ble_eq_true rfl), fun t ht => ?_⟩
    refine ⟨_, rfl, (g, c'), ⟨rfl, rfl⟩, t, rfl, ?_, same_upd ht _ _ g1, same_upd ht _ _ c1, hb, h10, by omega, h12, fun H2 a t1 t2 rs qs st S s2 ha hq1 hQ hq2 hR ex => ?_⟩
    · rw [upd_same]
      show some (HO.tup [V.int 0, V.int (1 % (m : Int))]) = _
      rw [em]; rfl
    have X2 : Ex tb H H2 := X1.trans (Ex.of ((same_upd ht).trans s2))
    have esz := ex.size
    have hmm : m * m ≤ 144 := Nat.mul_le_mul h12 h12
    refine ⟨a, _, rfl, SqT.of ha, rfl, _, _, rfl, _, _, rfl, rfl, ?_⟩
    refine ⟨_, rfl, _, rfl, _, rfl, t2, rfl, ⟨_, SqT.of hq2⟩, fun D2 hD2 => ?_⟩
    refine lc_tup (K := K) (a := t2) (xs := rs.map V.ref) (fun i H3 => Same H2 H3 ∧ H3 D2 = some (.lst ((st.take i).map fun q => ni q.1))) ⟨same_upd hD2, upd_same⟩ (fun i H3 _ z => SqT.of (z.1 _ _ hq2)) ?_ ?_
    · rintro i v H3 hv ⟨sm, h3⟩
      have hi : i < st.length := by
        have := (List.getElem?_eq_some_iff.mp hv).1
        rwa [List.length_map, hR.1] at this
      obtain ⟨r, hr1⟩ : ∃ r, rs[i]? = some r := ⟨_, List.getElem?_eq_getElem (by rw [hR.1]; exact hi)⟩
      rw [List.getElem?_map, hr1] at hv
      obtain rfl : V.ref r = v := Option.some.inj hv
      refine ⟨r, _, rfl, SqT.of (sm _ _ (hR.2 i r hr1)), rfl, _, _, rfl, _, _, rfl, rfl, rfl, ?_⟩
      dsimp only [tYes]
      rw [if_pos rfl]
      refine ⟨_, rfl, _, h3, small_line' (by rw [List.length_map, List.length_take]; omega), same_upd' sm hD2, ?_⟩
      rw [upd_same, map_succ (0, 0) hi]; rfl
    · rintro H3 ⟨sm, h3⟩
      rw [List.length_map, hR.1, List.take_length] at h3
      refine .inl ⟨D2, _, rfl, SqL.of h3, fun u hu => ?_⟩
      have s3 := same_upd (o := .tup (st.map fun q => ni q.1)) hu
      refine fun x dx nx ndx ne => ?_
      have s4 := same_made (C := c.CM) (fs := []) nx ndx
      have s5 := s3.trans s4
      have s6 := sm.trans s5
      have hB : H3 = H3 := rfl
      refine ⟨x, dx, t1, u, b, S, modB st, rfl, upd_same, (hQ.keep (Kp.of s6)).rows (s6 _ _ hq1), ?_, ex.raw hb h10 h12, fun H4 F mx s7 cF h1 h2 => ⟨rfl, ?_⟩⟩
      · unfold modB
        rw [List.map_map]
        exact s4 _ _ upd_same
      · rw [mod_many ex hb hm cF h1 h2]
        have g1 := same_upd' (o := .ins c.CM dx (fM b t1 u (m : Int))) (s4.trans s7) nx
        have g2 := s3.trans g1
        have g3 := sm.trans g2
        refine k _ x st S (X2.trans (Ex.of g3)) (X2.non _ ((sm.trans s3).free nx)) ex ⟨dx, t1, u, upd_same, (hQ.keep (Kp.of g3)).rows (g3 _ _ hq1), ?_⟩
        show upd H4 x _ u = some (.tup ((modB st).map ni))
        unfold modB
        rw [List.map_map]
        exact g1 _ _ upd_same
end
end Wb

set_option Elab.async false
set_option linter.all false
set_option maxRecDepth 100000
set_option maxHeartbeats 4000000
namespace Wb
open PySem PySem.Spec PyProof.Rows L2
/-! ### the law's deck -/
theorem p29 : (0 : Int) < 2147483629 := by decide
theorem p87 : (0 : Int) < 2147483587 := by decide
theorem p47 : (0 : Int) < 2147483647 := by decide
theorem p63 : (0 : Int) < 2147483563 := by decide
def deckK (cl : Addr) (bl : Int) (n : Int) : List (Key × V) := [(.inr "cells", .ref cl), (.inr "blend", .int bl), (.inr "draws", .int n)]
theorem kc_b : ¬ (.inr "cells" : Key) = (.inr "blend" : Key) := by decide +kernel
theorem kc_d : ¬ (.inr "cells" : Key) = (.inr "draws" : Key) := by decide +kernel
theorem kb_d : ¬ (.inr "blend" : Key) = (.inr "draws" : Key) := by decide +kernel
section
variable {cl : Addr} {bl n m : Int} {H : Hp} {d : Addr}
theorem dk_cells : valV (deckK cl bl n) (.inr "cells") = some (.ref cl) := valV_pos rfl
theorem dk_blend : valV (deckK cl bl n) (.inr "blend") = some (.int bl) := (valV_neg (p := ((.inr "cells" : Key), V.ref cl)) kc_b).trans (valV_pos rfl)
theorem dk_draws : valV (deckK cl bl n) (.inr "draws") = some (.int n) := (valV_neg (p := ((.inr "cells" : Key), V.ref cl)) kc_d).trans ((valV_neg (p := ((.inr "blend" : Key), V.int bl)) kb_d).trans (valV_pos rfl))
theorem dk_put : putK (deckK cl bl n) (.inr "draws") (.int m) = deckK cl bl m := by
  unfold putK
  have h : ((deckK cl bl n).any fun kv => decide (kv.1 = .inr "draws")) = true := by rw [valV_any, dk_draws]; rfl
  rw [if_pos h]
  unfold deckK
  simp only [List.map_cons, List.map_nil]
  rw [if_neg kc_d, if_neg kb_d, if_pos True.intro]
theorem dk_merge : mergeK [] (deckK cl bl n) = deckK cl bl n := by
  have e : mergeK [] (deckK cl bl n) = putK (putK (putK [] (.inr "cells") (.ref cl)) (.inr "blend") (.int bl)) (.inr "draws") (.int n) := rfl
  rw [e, putK_new _ valV_nil, List.nil_append, putK_new _ ((valV_neg (p := ((.inr "cells" : Key), V.ref cl)) kc_b).trans valV_nil)]
  rw [putK_new]
  · rfl
  · exact (valV_neg (p := ((.inr "cells" : Key), V.ref cl)) kc_d).trans ((valV_neg (p := ((.inr "blend" : Key), V.int bl)) kb_d).trans valV_nil)
theorem cut_ints (ns : List Int) (lo hi : Option Int) : ∃ cs : List Int, cutV (ns.map V.int) lo hi = cs.map V.int ∧ cs.length ≤ ns.length := by
  refine ⟨(ns.drop (HT.sIx (ns.map V.int).length 0 lo)).take (HT.sIx (ns.map V.int).length (ns.map V.int).length hi - HT.sIx (ns.map V.int).length 0 lo), ?_, ?_⟩
  · unfold cutV
    rw [List.map_take, List.map_drop]
  · rw [List.length_take, List.length_drop]; omega
theorem get_cells (h : H d = some (.dK (deckK cl bl n))) : DGet H d (.str "cells") (some (.ref cl)) := by
  have q := DGet.k (k := .inr "cells") h
  rw [dk_cells] at q; exact q
theorem get_blend (h : H d = some (.dK (deckK cl bl n))) : DGet H d (.str "blend") (some (.int bl)) := by
  have q := DGet.k (k := .inr "blend") h
  rw [dk_blend] at q; exact q
theorem get_draws (h : H d = some (.dK (deckK cl bl n))) : DGet H d (.str "draws") (some (.int n)) := by
  have q := DGet.k (k := .inr "draws") h
  rw [dk_draws] at q; exact q
theorem put_draws (h : H d = some (.dK (deckK cl bl n))) : DPut H d (.str "draws") (.int m) (upd H d (.dK (deckK cl bl m))) := by
  have q := DPut.k (k := .inr "draws") (v := .int m) h (by show 3 < sizeLine; exact small_line' (by decide))
  rw [dk_put] at q; exact q
end
structure DeckAt (H : Hp) (d cl : Addr) (n : Nat) : Prop where
  at_ : ∃ bl : Int, 0 ≤ bl ∧ bl < 2147483587 ∧ H d = some (.dK (deckK cl bl n))
  cells : ∃ cs : List Int, H cl = some (.lst (cs.map V.int)) ∧ cs.length ≤ 63
/-- all but the deck and its cells stands still, tables of code objects grow -/
structure Lx (d cl tb : Addr) (H H' : Hp) : Prop where
  keep : ∀ b u, b ≠ d → b ≠ cl → (∀ ps, u ≠ .tbl ps) → H b = some u → H' b = some u
  non : ∀ b, H' b = none → H b = none
  tab : NdefX.TabN H tb nmOn → NdefX.TabN H' tb nmOn
section
variable {d cl tb : Addr} {H H1 H2 : Hp}
theorem Lx.ofE (e : Ex tb H H1) : Lx d cl tb H H1 := ⟨fun b u _ _ n h => e.ext b u h n, e.non, e.tab⟩
theorem Lx.of (s : Same H H1) : Lx d cl tb H H1 := Lx.ofE (Ex.of s)
theorem Lx.refl : Lx d cl tb H H := Lx.of fun _ _ h => h
theorem Lx.trans (a : Lx d cl tb H H1) (b : Lx d cl tb H1 H2) : Lx d cl tb H H2 := ⟨fun x u h1 h2 n h => b.keep x u h1 h2 n (a.keep x u h1 h2 n h), fun x h => a.non x (b.non x h), fun t => b.tab (a.tab t)⟩
theorem tab_upd {p : Addr} {o o' : HO} (h : H p = some o) (h1 : ∀ ps, o ≠ .tbl ps) (h2 : ∀ c q, o ≠ LamX.CodeO c q) (t : NdefX.TabN H tb nmOn) : NdefX.TabN (upd H p o') tb nmOn := by
  obtain ⟨ps, a1, a2, a3⟩ := t
  refine ⟨ps, ?_, a2, fun pos cv hc => ?_⟩
  · rw [upd_ne (fun e => by rw [e, h] at a1; cases a1; exact h1 _ rfl)]; exact a1
  · obtain ⟨c, e1, e2⟩ := a3 pos cv hc
    refine ⟨c, e1, ?_⟩
    rw [upd_ne (fun e => by rw [e, h] at e2; exact h2 _ _ (Option.some.inj e2))]; exact e2
theorem non_upd {p : Addr} {o o' : HO} (h : H p = some o) : ∀ b, upd H p o' b = none → H b = none := fun b e => by
  by_cases z : b = p
  · subst z; rw [upd_same] at e; cases e
  · rw [upd_ne z] at e; exact e
theorem lst_code {xs : List V} : ∀ c q, HO.lst xs ≠ LamX.CodeO c q := fun c q z => by unfold LamX.CodeO at z; cases z
theorem dk_code {xs : List (Key × V)} : ∀ c q, HO.dK xs ≠ LamX.CodeO c q := fun c q z => by unfold LamX.CodeO at z; cases z
theorem Lx.upd_d {xs : List (Key × V)} {o : HO} (h : H d = some (.dK xs)) : Lx d cl tb H (upd H d o) := ⟨fun b u h1 _ _ e => by rw [upd_ne h1]; exact e, non_upd h, tab_upd h (fun _ z => nomatch z) dk_code⟩
theorem Lx.upd_c {xs : List V} {o : HO} (h : H cl = some (.lst xs)) : Lx d cl tb H (upd H cl o) := ⟨fun b u _ h1 _ e => by rw [upd_ne h1]; exact e, non_upd h, tab_upd h (fun _ z => nomatch z) lst_code⟩
theorem DeckAt.ex {n : Nat} (k : DeckAt H d cl n) (e : Ex tb H H1) : DeckAt H1 d cl n := by
  obtain ⟨⟨bl, h1, h2, h3⟩, cs, h4, h5⟩ := k
  exact ⟨⟨bl, h1, h2, e.ext _ _ h3 (fun _ z => nomatch z)⟩, cs, e.ext _ _ h4 (fun _ z => nomatch z), h5⟩
theorem DeckAt.same {n : Nat} (k : DeckAt H d cl n) (e : Same H H1) : DeckAt H1 d cl n := k.ex (tb := 0) (Ex.of e)
theorem DeckAt.ne {n : Nat} (k : DeckAt H d cl n) : d ≠ cl := by
  obtain ⟨⟨bl, h1, h2, h3⟩, cs, h4, h5⟩ := k
  rintro rfl
  rw [h3] at h4; cases h4
/-- what is no list and no dict stands still -/
theorem Lx.kp {n : Nat} (l : Lx d cl tb H H1) (k : DeckAt H d cl n) : Kp H H1 := fun b u h z => by
  obtain ⟨⟨bl, h1, h2, h3⟩, cs, h4, h5⟩ := k
  refine l.keep b u ?_ ?_ ?_ h
  · rintro rfl; rw [h3] at h; cases h; exact z
  · rintro rfl; rw [h4] at h; cases h; exact z
  · rintro ps rfl; exact z
end
section
variable {P : Program} {w : World} {K : PySem.W.Frag} {mg : Str → Option Value} {base : Heap} {f tb : Addr}
/-! ### _law_deck -/
def spDeck (K : PySem.W.Frag) : Sp := fun vs H Q _ => ∃ (a : Addr) (ns : List Int), vs = [.ref a] ∧ SqL K H a (ns.map V.int) ∧ ns.length ≤ 63 ∧ ∀ (H' : Hp) (d cl : Addr), Same H H' → DeckAt H' d cl 0 → Q (.ref d) H'
abbrev nDeck : List Str := ["_law_script", "_law_cells", "_law_blend", "_law_cell"]
theorem scDeck : FnScope nDeck ["_law_script"] (defScope sDeck) := ⟨rfl, rfl, rfl, by decide +kernel, rfl, by decide +kernel, by decide +kernel⟩
theorem bdDeck : BindsSt "_law_deck" "_law_deck" sDeck ["_law_script"] := fun _ _ _ _ _ _ us hl => match us, hl with | [_], _ => rfl
theorem ok_Deck (B : TB mg) (D : Df K "_law_deck" "_law_deck" sDeck f) : FnR P w K mg base CX0 1 f (spDeck K) := by
  refine D.okR scDeck bdDeck (fun vs H Q E h => ?_) (fun cdv A outer s H vs Q E hr h => ?_)
  · obtain ⟨_, _, rfl, _⟩ := h
    rfl
  · obtain ⟨a, ns, rfl, ha, hlen, k⟩ := h
    refine ⟨_, pss_cons (ps_par (i := 1) (j := 2) rfl scDeck.nd rfl rfl (by decide) rfl rfl (pa_cons (pe_callTy call_list_of (by rfl) B.list (by decide +kernel) (pa_cons (pe_slice sl_list (pv 0) po_none (po_some pe_int)) pa_nil)) (pa_cons pe_int pa_nil)) rfl)
      (pss_cons (ps_for PassesOwn.never rfl (pi_list (pv 1)) (pg_name (i := 3) scDeck.nd rfl (.inl rfl))
        (pss_one (ps_set (i := 2) scDeck.nd rfl (.inl rfl) (pe_op op_mod (pe_callTy call_int1 (by rfl) B.int (by decide +kernel) (pa_cons (pe_op op_add (pe_op op_add (pe_op op_mul (pv 2) pe_int) (pe_op op_mod (pe_callTy call_int1 (by rfl) B.int (by decide +kernel) (pa_cons (pv 3) pa_nil)) pe_int)) pe_int) pa_nil)) pe_int))))
      (pss_one (ps_ret (pe_disp (pps_cons pe_str (pe_revL (pv 1)) (pps_cons pe_str (pv 2) (pps_cons pe_str pe_int pps_nil))) (by rfl) (by rfl) (fun z => by cases z) (by decide))))), ?_⟩
    obtain ⟨cs, ec, el⟩ := cut_ints ns none (some 63)
    refine ⟨_, rfl, 63, rfl, a, _, rfl, ha, fun p hp => ?_⟩
    rw [ec]
    have s1 := same_upd (o := .lst (cs.map V.int)) hp
    refine ⟨p, _, rfl, .inl (SqL.of upd_same), fun l hl => ?_⟩
    have s2 := same_upd (o := .lst (cs.map V.int)) hl
    refine ⟨_, _, rfl, _, rfl, l, rfl, ⟨_, SqL.of upd_same⟩, ?_⟩
    refine for_list (K := K) (a := l) (xs := cs.map V.int) (fun i sg H' => H' = upd (upd H p (.lst (cs.map V.int))) l (.lst (cs.map V.int)) ∧ ∃ (bl : Int) (o : Option V), 0 ≤ bl ∧ bl < 2147483587 ∧ sg = [some (.ref a), some (.ref l), some (.int bl), o]) ⟨rfl, 95079, none, by decide, by decide, rfl⟩ (fun i sg H' _ z => by rw [z.1]; exact SqL.of upd_same) ?_ ?_
    · rintro i x sg H' hx ⟨rfl, bl, o, b1, b2, rfl⟩
      rw [List.getElem?_map] at hx
      cases hz : cs[i]? with
      | none => rw [hz] at hx; cases hx
      | some z =>
        rw [hz] at hx
        obtain rfl : V.int z = x := Option.some.inj hx
        refine ⟨_, rfl, _, _, rfl, rfl, .inl ⟨by omega, by omega⟩, _, rfl, .inl ⟨_, rfl, _, _, rfl, rfl, p29, _, _, rfl, rfl, _, _, rfl, rfl, .inl ⟨_, rfl, _, _, rfl, rfl, p87, rfl, _, _, Int.emod_nonneg _ (by decide), Int.emod_lt_of_pos _ (by decide), rfl⟩⟩⟩
    · rintro sg H' ⟨rfl, bl, o, b1, b2, rfl⟩
      refine fun d hd => ?_
      have s3 := same_upd (o := .dK []) hd
      refine ⟨_, rfl, l, _, rfl, SqL.of (s3 _ _ upd_same), fun q hq => ?_⟩
      have s4 := same_upd (o := .lst (cs.map V.int).reverse) hq
      have h4 := s4 _ _ upd_same
      refine ⟨_, rfl, h4, deckK q bl 0, rfl, by show 3 ≤ 15; decide, ?_⟩
      rw [dk_merge]
      have dn : (upd (upd H p (.lst (cs.map V.int))) l (.lst (cs.map V.int))) d = none := hd
      have qd : q ≠ d := by rintro rfl; rw [upd_same] at hq; cases hq
      refine k _ d q (same_upd' (((s1.trans s2).trans s3).trans s4) ((s1.trans s2).free dn)) ⟨⟨bl, b1, b2, upd_same⟩, cs.reverse, ?_, ?_⟩
      · rw [upd_ne qd, upd_same, List.map_reverse]
      · rw [List.length_reverse]; omega
end
end Wb

set_option Elab.async false
set_option linter.all false
set_option maxRecDepth 100000
set_option maxHeartbeats 4000000
namespace Wb
open PySem PySem.Spec PyProof.Rows L2
theorem eqv_nil (cs : List Int) : PyData.eqv (.list (cs.map PyData.int)) (.list []) = cs.isEmpty := by
  cases cs with
  | nil => rfl
  | cons a l => rfl
theorem lo47 (e : Int) : -(2 ^ 64) < e % 2147483647 := by
  have := Int.emod_nonneg e (show (2147483647 : Int) ≠ 0 by decide)
  omega
theorem hi47 (e : Int) : e % 2147483647 < 2 ^ 64 := by
  have := Int.emod_lt_of_pos e p47
  omega
theorem last_int (cs : List Int) (h : cs ≠ []) : ∃ y, (cs.map V.int)[(cs.map V.int).length - 1]? = some (V.int y) := by
  have hl : 0 < cs.length := List.length_pos_iff.mpr h
  refine ⟨cs[cs.length - 1], ?_⟩
  rw [List.length_map, List.getElem?_map, List.getElem?_eq_getElem (by omega)]; rfl
theorem take_mod (e : Int) {m : Nat} (hm : 1 ≤ m) : ∃ r : Nat, r < m ∧ V.int (e % (m : Int)) = ni r := by
  refine ⟨(e % (m : Int)).toNat, ?_, ?_⟩
  · have h1 := Int.emod_nonneg e (show (m : Int) ≠ 0 by omega)
    have h2 := Int.emod_lt_of_pos e (show (0 : Int) < (m : Int) by omega)
    omega
  · have h1 := Int.emod_nonneg e (show (m : Int) ≠ 0 by omega)
    show V.int _ = V.int _
    congr 1
    omega
section
variable {P : Program} {w : World} {K : PySem.W.Frag} {mg : Str → Option Value} {base : Heap} {f tb : Addr}
/-! ### _law_draw -/
def spDraw (tb : Addr) : Sp := fun vs H Q _ => ∃ (d cl : Addr) (n m : Nat), vs = [.ref d, ni m] ∧ DeckAt H d cl n ∧ n ≤ 1000000 ∧ 1 ≤ m ∧ m ≤ 1000000 ∧ ∀ (H' : Hp) (r : Nat), r < m → DeckAt H' d cl (n + 1) → Lx d cl tb H H' → Q (ni r) H'
abbrev nDraw : List Str := ["_law_deck_here", "_law_many", "_law_turn", "_law_cell", "_law_held"]
theorem scDraw : FnScope nDraw ["_law_deck_here", "_law_many"] (defScope sDraw) := ⟨rfl, rfl, rfl, by decide +kernel, rfl, by decide +kernel, by decide +kernel⟩
theorem bdDraw : BindsSt "_law_draw" "_law_draw" sDraw ["_law_deck_here", "_law_many"] := fun _ _ _ _ _ _ us hl => match us, hl with | [_, _], _ => rfl
theorem ok_Draw (B : TB mg) (D : Df K "_law_draw" "_law_draw" sDraw f) : FnR P w K mg base CX0 1 f (spDraw tb) := by
  refine D.okR scDraw bdDraw (fun vs H Q E h => ?_) (fun cdv A outer s H vs Q E hr h => ?_)
  · obtain ⟨_, _, _, _, rfl, _⟩ := h
    rfl
  · obtain ⟨d, cl, n, m, rfl, DA, hn, hm, hm2, k⟩ := h
    have hu := hu_of hr
    refine ⟨_, pss_cons (ps_dput hu (pv 0) pe_str (pe_op op_add (pe_dget hu (pv 0) pe_str (fun _ _ => rfl)) pe_int) rfl)
      (pss_cons (ps_par (i := 2) (j := 3) rfl scDraw.nd rfl rfl (by decide) rfl rfl (pa_cons (pe_dget hu (pv 0) pe_str (fun _ _ => rfl)) (pa_cons (pe_dget hu (pv 0) pe_str (fun _ _ => rfl)) pa_nil)) rfl)
      (pss_cons (ps_if (pt_cmpR (op_neD hr.units) (pe_dget hu (pv 0) pe_str (fun _ _ => rfl)) (pe_lst pa_nil) (nomark _))
        (pss_cons (ps_set (i := 3) scDraw.nd rfl (.inl rfl) (pe_bm0 PySem.F.plainAttrs_list PySem.F.slot_list_pop PySem.F.type_list_pop mt_pop (pe_dget hu (pv 0) pe_str (fun _ _ => rfl))))
        (pss_cons (ps_if (pt_cmpR op_ge (pv 3) (pe_op op_pow pe_int pe_int) (nomark _))
          (pss_cons (ps_expr (pe_bm PySem.F.plainAttrs_list PySem.F.slot_list_append PySem.F.type_list_append mt_append (pe_dget hu (pv 0) pe_str (fun _ _ => rfl)) (pa_cons (pe_op op_fdivN (pv 3) (pv 1)) pa_nil)))
          (pss_one (ps_ret (pe_op op_mod (pe_callTy call_int1 (by rfl) B.int (by decide +kernel) (pa_cons (pv 3) pa_nil)) (pv 1))))) pss_nil)
        (pss_one (ps_set (i := 3) scDraw.nd rfl (.inl rfl) (pe_op op_add (pv 3) (pe_dget hu (pv 0) pe_str (fun _ _ => rfl))))))) pss_nil)
      (pss_cons (ps_set (i := 4) scDraw.nd rfl (.inl rfl) (pe_op op_mul (pe_callTy call_int1 (by rfl) B.int (by decide +kernel) (pa_cons (pe_op op_add (pe_op op_add (pe_op op_mod (pe_callTy call_int1 (by rfl) B.int (by decide +kernel) (pa_cons (pv 3) pa_nil)) pe_int) (pe_op op_mul (pe_op op_mul pe_int (pv 2)) (pv 2))) pe_int) pa_nil)) pe_int))
      (pss_cons (ps_set (i := 4) scDraw.nd rfl (.inl rfl) (pe_op op_mod (pe_callTy call_int1 (by rfl) B.int (by decide +kernel) (pa_cons (pv 4) pa_nil)) pe_int))
      (pss_cons (ps_set (i := 4) scDraw.nd rfl (.inl rfl) (pe_op op_mod (pe_callTy call_int1 (by rfl) B.int (by decide +kernel) (pa_cons (pe_op op_add (pe_op op_add (pe_op op_mul (pv 4) (pv 4)) (pe_op op_mul pe_int (pv 2))) pe_int) pa_nil)) pe_int))
      (pss_one (ps_ret (pe_op op_mod (pe_op op_fdiv (pe_op op_mod (pe_callTy call_int1 (by rfl) B.int (by decide +kernel) (pa_cons (pe_op op_mul (pv 4) pe_int) pa_nil)) pe_int) pe_int) (pv 1))))))))), ?_⟩
    have fin : ∀ (e : Int) (H3 : Hp), DeckAt H3 d cl (n + 1) → Lx d cl tb H H3 → Q (V.int (e % (m : Int))) H3 := fun e H3 a l => by
      obtain ⟨r, hr, q⟩ := take_mod e hm
      rw [q]
      exact k H3 r hr a l
    obtain ⟨⟨bl, b1, b2, hd⟩, cs, hc, hcl⟩ := id DA
    have ne := DA.ne
    have ne' : cl ≠ d := fun z => ne z.symm
    refine ⟨_, rfl, d, _, rfl, get_draws hd, _, _, rfl, rfl, _, rfl, d, _, rfl, put_draws hd, ?_⟩
    have hd1 : upd H d (.dK (deckK cl bl ((n : Int) + 1))) d = some (.dK (deckK cl bl ((n : Int) + 1))) := upd_same
    have hc1 : upd H d (.dK (deckK cl bl ((n : Int) + 1))) cl = some (.lst (cs.map V.int)) := (upd_ne ne').trans hc
    have L1 : Lx d cl tb H (upd H d (.dK (deckK cl bl ((n : Int) + 1)))) := Lx.upd_d hd
    revert hd1 hc1 L1
    generalize upd H d (.dK (deckK cl bl ((n : Int) + 1))) = H1
    intro hd1 hc1 L1
    refine ⟨_, rfl, d, _, rfl, get_draws hd1, _, rfl, d, _, rfl, get_blend hd1, _, _, rfl, ?_⟩
    refine ⟨_, rfl, d, _, rfl, get_cells hd1, small_line (Nat.le_of_ble_eq_true rfl), fun e he => ?_⟩
    have s2 := same_upd (o := .lst []) he
    refine ⟨_, _, .lst (SqL.of (s2 _ _ hc1)) (dp_ints cs), .lst (SqL.of upd_same) .nil, PySem.W.ke_shaped_ints cs, PySem.W.ke_shaped_ints [], _, rfl, ?_⟩
    rw [eqv_nil]
    have hd2 := s2 _ _ hd1
    have hc2 := s2 _ _ hc1
    have L2' := L1.trans (Lx.of (d := d) (cl := cl) (tb := tb) s2)
    revert hd2 hc2 L2'
    generalize upd H1 e (.lst []) = H2
    intro hd2 hc2 L2'
    cases cs with
    | nil =>
      refine iteF ?_
      refine ⟨_, rfl, .inl ⟨_, rfl, _, _, rfl, rfl, p29, _, rfl, _, _, rfl, rfl, .inl ⟨by omega, by omega⟩, _, rfl, _, _, rfl, rfl, .inl ⟨by omega, by omega⟩, _, _, rfl, rfl, _, _, rfl, rfl, .inl ⟨_, rfl, _, _, rfl, rfl, .inr ⟨by omega, by omega⟩, ?_⟩⟩⟩
      refine ⟨_, rfl, .inl ⟨_, rfl, _, _, rfl, rfl, p47, ?_⟩⟩
      refine ⟨_, rfl, _, rfl, _, _, rfl, rfl, .inl ⟨lo47 _, hi47 _⟩, _, rfl, _, _, rfl, rfl, .inl ⟨by omega, by omega⟩, _, _, rfl, rfl, _, _, rfl, rfl, .inl ⟨_, rfl, _, _, rfl, rfl, p87, ?_⟩⟩
      refine ⟨_, rfl, _, _, rfl, rfl, .inr ⟨by omega, by omega⟩, .inl ⟨_, rfl, _, _, rfl, rfl, p63, _, _, rfl, rfl, ⟨by omega, by omega⟩, _, rfl, _, _, rfl, rfl, by omega, ?_⟩⟩
      exact fin _ _ ⟨⟨bl, b1, b2, by rw [Int.natCast_add]; exact hd2⟩, [], hc2, by decide⟩ L2'
    | cons z zs =>
      refine iteT ?_
      obtain ⟨y, hy⟩ := last_int (z :: zs) (by simp)
      have hpl : ((z :: zs).map V.int).dropLast = (z :: zs).dropLast.map V.int := List.map_dropLast.symm
      refine ⟨_, rfl, d, _, rfl, get_cells hd2, .inl ⟨rfl, _, SqL.of hc2⟩, cl, _, V.int y, rfl, rfl, hc2, hy, ?_⟩
      rw [hpl]
      have hzl : (z :: zs).dropLast.length ≤ 62 := by
        rw [List.length_dropLast]; omega
      have hc3 : upd H2 cl (.lst ((z :: zs).dropLast.map V.int)) cl = _ := upd_same
      have hd3 : upd H2 cl (.lst ((z :: zs).dropLast.map V.int)) d = _ := (upd_ne ne).trans hd2
      have L3 : Lx d cl tb H (upd H2 cl (.lst ((z :: zs).dropLast.map V.int))) := L2'.trans (Lx.upd_c hc2)
      revert hc3 hd3 L3
      generalize upd H2 cl (.lst ((z :: zs).dropLast.map V.int)) = H3
      generalize (z :: zs).dropLast = us at hzl ⊢
      intro hc3 hd3 L3
      refine ⟨_, rfl, _, _, rfl, rfl, ⟨by decide, by decide, by decide⟩, _, _, rfl, rfl, _, rfl, ?_⟩
      refine ite2 (fun _ => ?_) (fun _ => ?_)
      · refine ⟨_, rfl, d, _, rfl, get_cells hd3, .inl ⟨rfl, _, SqL.of hc3⟩, _, rfl, _, rfl, _, _, rfl, rfl, ⟨by omega, by omega⟩, cl, _, _, rfl, rfl, hc3, small_line' (by rw [List.length_map]; omega), ?_⟩
        refine ⟨_, rfl, .inl ⟨_, rfl, _, rfl, _, _, rfl, rfl, by omega, ?_⟩⟩
        refine fin _ _ ⟨⟨bl, b1, b2, ?_⟩, us ++ [y.fdiv (m : Int)], ?_, ?_⟩ (L3.trans (Lx.upd_c hc3))
        · rw [upd_ne ne, Int.natCast_add]; exact hd3
        · rw [upd_same, List.map_append]; rfl
        · rw [List.length_append]; show us.length + 1 ≤ 63; omega
      · refine ⟨_, rfl, _, rfl, d, _, rfl, get_blend hd3, _, _, rfl, rfl, ?_⟩
        refine ⟨_, rfl, .inl ⟨_, rfl, _, _, rfl, rfl, p29, _, rfl, _, _, rfl, rfl, .inl ⟨by omega, by omega⟩, _, rfl, _, _, rfl, rfl, .inl ⟨by omega, by omega⟩, _, _, rfl, rfl, _, _, rfl, rfl, .inl ⟨_, rfl, _, _, rfl, rfl, .inr ⟨by omega, by omega⟩, ?_⟩⟩⟩
        refine ⟨_, rfl, .inl ⟨_, rfl, _, _, rfl, rfl, p47, ?_⟩⟩
        refine ⟨_, rfl, _, rfl, _, _, rfl, rfl, .inl ⟨lo47 _, hi47 _⟩, _, rfl, _, _, rfl, rfl, .inl ⟨by omega, by omega⟩, _, _, rfl, rfl, _, _, rfl, rfl, .inl ⟨_, rfl, _, _, rfl, rfl, p87, ?_⟩⟩
        refine ⟨_, rfl, _, _, rfl, rfl, .inr ⟨by omega, by omega⟩, .inl ⟨_, rfl, _, _, rfl, rfl, p63, _, _, rfl, rfl, ⟨by omega, by omega⟩, _, rfl, _, _, rfl, rfl, by omega, ?_⟩⟩
        exact fin _ _ ⟨⟨bl, b1, b2, by rw [Int.natCast_add]; exact hd3⟩, us, hc3, by omega⟩ L3
end
end Wb

set_option Elab.async false
set_option linter.all false
set_option maxRecDepth 100000
set_option maxHeartbeats 4000000
namespace Wb
open PySem PySem.Spec PyProof.Rows L2
theorem one_add (x : Nat) : V.int (1 + (x : Int)) = ni (1 + x) := by
  show V.int _ = V.int _
  rw [Int.natCast_add]; rfl
/-- where the law's helpers stand -/
structure TD (K : PySem.W.Frag) (mg : Str → Option Value) (fdr fpk fpw fnm : Addr) : Prop where
  dr : Df K "_law_draw" "_law_draw" sDraw fdr
  mdr : mg "_law_draw" = some (.ref fdr)
  pk : Df K "_law_pick" "_law_pick" sPick fpk
  mpk : mg "_law_pick" = some (.ref fpk)
  pw : Df K "_law_power" "_law_power" sPow fpw
  mpw : mg "_law_power" = some (.ref fpw)
  nm : Df K "_law_number" "_law_number" sNum fnm
  mnm : mg "_law_number" = some (.ref fnm)
section
variable {P : Program} {w : World} {K : PySem.W.Frag} {mg : Str → Option Value} {base : Heap} {f tb fdr fpk fpw fnm : Addr}
/-! ### _law_pick -/
def spPick (tb : Addr) : Sp := fun vs H Q _ => ∃ (d cl l : Addr) (n : Nat) (xs : List Nat), vs = [.ref d, .ref l] ∧ DeckAt H d cl n ∧ n ≤ 999990 ∧ l ≠ cl ∧ H l = some (.lst (xs.map ni)) ∧ 1 ≤ xs.length ∧ xs.length ≤ 100 ∧
  ∀ (H' : Hp) (x : Nat), x ∈ xs → DeckAt H' d cl (n + 1) → Lx d cl tb H H' → Q (ni x) H'
theorem scPick : FnScope ["_law_deck_here", "_law_some"] ["_law_deck_here", "_law_some"] (defScope sPick) := ⟨rfl, rfl, rfl, by decide +kernel, rfl, by decide +kernel, by decide +kernel⟩
theorem bdPick : BindsSt "_law_pick" "_law_pick" sPick ["_law_deck_here", "_law_some"] := fun _ _ _ _ _ _ us hl => match us, hl with | [_, _], _ => rfl
theorem ok_Pick (B : TB mg) (T : TD K mg fdr fpk fpw fnm) : FnR P w K mg base CX0 2 fpk (spPick tb) := by
  refine T.pk.okR scPick bdPick (fun vs H Q E h => ?_) (fun cdv A outer s H vs Q E hr h => ?_)
  · obtain ⟨_, _, _, _, _, rfl, _⟩ := h
    rfl
  · obtain ⟨d, cl, l, n, xs, rfl, DA, hn, lc, hl, h1, h2, k⟩ := h
    have GD : FnR P w K mg base CX0 1 fdr (spDraw tb) := ok_Draw B T.dr
    refine ⟨_, pss_one (ps_ret (pe_ix ix_list (pv 1) (pe_callR GD hr (by rfl) T.mdr T.dr.kp (pa_cons (pv 0) (pa_cons (pe_callB call_len_seq (by rfl) B.len PySem.boot_len (pa_cons (pv 1) pa_nil)) pa_nil))) (fun _ _ => rfl))), ?_⟩
    have ld : l ≠ d := by
      obtain ⟨⟨_, _, _, hd⟩, _⟩ := DA
      rintro rfl; rw [hd] at hl; cases hl
    refine ⟨_, rfl, _, rfl, _, rfl, l, _, rfl, .inl (SqL.of hl), d, cl, n, xs.length, by rw [List.length_map]; rfl, DA, by omega, h1, by omega, fun H' r hr DA' L => ?_⟩
    refine ⟨l, _, _, ni (xs.getD r 0), rfl, rfl, SqL.of (L.keep _ _ ld lc (fun _ z => nomatch z) hl), atI_nat (ni_at hr), ?_⟩
    exact k H' _ (get_mem 0 hr) DA' L
/-! ### _law_power -/
def spPow : Sp := fun vs H Q _ => ∃ r t : Nat, vs = [ni r, ni t] ∧ r ≤ 10 ∧ t ≤ 100 ∧ Q (ni (r ^ t)) H
abbrev nPow : List Str := ["_law_radix", "_law_times", "_law_found", "_law_go"]
theorem scPow : FnScope nPow ["_law_radix", "_law_times"] (defScope sPow) := ⟨rfl, rfl, rfl, by decide +kernel, rfl, by decide +kernel, by decide +kernel⟩
theorem bdPow : BindsSt "_law_power" "_law_power" sPow ["_law_radix", "_law_times"] := fun _ _ _ _ _ _ us hl => match us, hl with | [_, _], _ => rfl
theorem ok_Pow (B : TB mg) (T : TD K mg fdr fpk fpw fnm) : FnR P w K mg base CX0 1 fpw spPow := by
  refine T.pw.okR scPow bdPow (fun vs H Q E h => ?_) (fun cdv A outer s H vs Q E hr h => ?_)
  · obtain ⟨_, _, rfl, _⟩ := h
    rfl
  · obtain ⟨r, t, rfl, hr10, ht, k⟩ := h
    refine ⟨_, pss_cons (ps_set (i := 2) scPow.nd rfl (.inl rfl) pe_int) (pss_cons (ps_for PassesOwn.never rfl (pi_range1 (by rfl) B.range (pa_cons (pv 1) pa_nil)) (pg_name (i := 3) scPow.nd rfl (.inl rfl))
      (pss_one (ps_set (i := 2) scPow.nd rfl (.inl rfl) (pe_op op_mul (pv 2) (pv 0))))) (pss_one (ps_ret (pv 2)))), ?_⟩
    refine ⟨_, rfl, (t : Int), rfl, by omega, by omega, ?_⟩
    rw [Int.toNat_natCast]
    refine for_range (lo := 0) (n := t) (fun i sg H' => H' = H ∧ ∃ o, sg = [some (ni r), some (ni t), some (ni (r ^ i)), o]) ⟨rfl, none, rfl⟩ ?_ ?_
    · rintro i sg H' hi ⟨rfl, o, rfl⟩
      refine ⟨_, rfl, _, rfl, _, _, rfl, rfl, .inr ⟨by omega, by omega⟩, rfl, some (V.int (0 + (i : Int))), ?_⟩
      show [some (ni r), some (ni t), some (V.int (((r ^ i : Nat) : Int) * (r : Int))), _] = _
      rw [← Int.natCast_mul, Nat.pow_succ]; rfl
    · rintro sg H' ⟨rfl, o, rfl⟩
      exact ⟨_, rfl, k⟩
/-! ### _law_number -/
def spNum (tb : Addr) : Sp := fun vs H Q _ => ∃ (d cl : Addr) (n r : Nat), vs = [.ref d, ni r] ∧ DeckAt H d cl n ∧ n ≤ 999900 ∧ r ≤ 10 ∧ 2 ≤ r ∧ ∀ (H' : Hp) (x n' : Nat), 1 ≤ x → n' ≤ n + 10 → DeckAt H' d cl n' → Lx d cl tb H H' → Q (ni x) H'
abbrev nNum : List Str := ["_law_deck_here", "_law_radix", "_law_sort", "_law_found", "_law_go"]
theorem scNum : FnScope nNum ["_law_deck_here", "_law_radix"] (defScope sNum) := ⟨rfl, rfl, rfl, by decide +kernel, rfl, by decide +kernel, by decide +kernel⟩
theorem bdNum : BindsSt "_law_number" "_law_number" sNum ["_law_deck_here", "_law_radix"] := fun _ _ _ _ _ _ us hl => match us, hl with | [_, _], _ => rfl
theorem ok_Num (B : TB mg) (T : TD K mg fdr fpk fpw fnm) : FnR P w K mg base CX0 3 fnm (spNum tb) := by
  refine T.nm.okR scNum bdNum (fun vs H Q E h => ?_) (fun cdv A outer s H vs Q E hr h => ?_)
  · obtain ⟨_, _, _, _, rfl, _⟩ := h
    rfl
  · obtain ⟨d, cl, n, r, rfl, DA, hn, hr10, hr2, k⟩ := h
    have GD : FnR P w K mg base CX0 1 fdr (spDraw tb) := ok_Draw B T.dr
    have GP : FnR P w K mg base CX0 2 fpk (spPick tb) := ok_Pick B T
    have GW : FnR P w K mg base CX0 1 fpw spPow := ok_Pow B T
    refine ⟨_, pss_cons (ps_set (i := 2) scNum.nd rfl (.inl rfl) (pe_callR GD (hr.mono (by decide)) (by rfl) T.mdr T.dr.kp (pa_cons (pv 0) (pa_cons pe_int pa_nil))))
      (pss_cons (ps_if (pt_cmpR op_eq (pv 2) pe_int (nomark _)) (pss_one (ps_ret pe_int)) pss_nil)
      (pss_cons (ps_if (pt_cmpR op_eq (pv 2) pe_int (nomark _)) (pss_one (ps_ret (pe_op op_add pe_int (pe_callR GD (hr.mono (by decide)) (by rfl) T.mdr T.dr.kp (pa_cons (pv 0) (pa_cons pe_int pa_nil)))))) pss_nil)
      (pss_cons (ps_if (pt_cmpR op_eq (pv 2) pe_int (nomark _)) (pss_one (ps_ret (pe_op op_mul (pe_op op_add pe_int (pe_callR GD (hr.mono (by decide)) (by rfl) T.mdr T.dr.kp (pa_cons (pv 0) (pa_cons pe_int pa_nil))))
        (pe_callR GW (hr.mono (by decide)) (by rfl) T.mpw T.pw.kp (pa_cons (pv 1) (pa_cons (pe_callR GD (hr.mono (by decide)) (by rfl) T.mdr T.dr.kp (pa_cons (pv 0) (pa_cons pe_int pa_nil))) pa_nil)))))) pss_nil)
      (pss_cons (ps_set (i := 3) scNum.nd rfl (.inl rfl) (pe_op op_add pe_int (pe_callR GD (hr.mono (by decide)) (by rfl) T.mdr T.dr.kp (pa_cons (pv 0) (pa_cons pe_int pa_nil)))))
      (pss_cons (ps_for PassesOwn.never rfl (pi_range1 (by rfl) B.range (pa_cons (pe_callR GP hr (by rfl) T.mpk T.pk.kp (pa_cons (pv 0) (pa_cons (pe_lst (pa_cons pe_int (pa_cons pe_int (pa_cons pe_int (pa_cons pe_int pa_nil))))) pa_nil))) pa_nil)) (pg_name (i := 4) scNum.nd rfl (.inl rfl))
        (pss_one (ps_set (i := 3) scNum.nd rfl (.inl rfl) (pe_op op_add (pe_op op_mul (pv 3) pe_int) (pe_callR GD (hr.mono (by decide)) (by rfl) T.mdr T.dr.kp (pa_cons (pv 0) (pa_cons pe_int pa_nil)))))))
      (pss_one (ps_ret (pv 3)))))))), ?_⟩
    refine ⟨_, rfl, d, cl, n, 5, rfl, DA, by omega, by decide, by decide, fun H1 s1 hs1 DA1 L1 => ?_⟩
    refine ⟨_, rfl, rfl, _, rfl, ite2 (fun _ => ?_) (fun _ => ?_)⟩
    · exact k H1 1 (n + 1) (by decide) (by omega) DA1 L1
    refine ⟨_, rfl, rfl, _, rfl, ite2 (fun _ => ?_) (fun _ => ?_)⟩
    · refine ⟨_, rfl, d, cl, n + 1, 60, rfl, DA1, by omega, by decide, by decide, fun H2 x hx DA2 L2 => ⟨_, _, rfl, rfl, ?_⟩⟩
      show Q (V.int (1 + (x : Int))) H2
      rw [one_add]
      exact k H2 _ (n + 2) (by omega) (by omega) DA2 (L1.trans L2)
    refine ⟨_, rfl, rfl, _, rfl, ite2 (fun _ => ?_) (fun _ => ?_)⟩
    · refine ⟨_, rfl, d, cl, n + 1, 400, rfl, DA1, by omega, by decide, by decide, fun H2 x hx DA2 L2 => ⟨_, _, rfl, rfl, _, rfl, _, rfl, d, cl, n + 2, 9, rfl, DA2, by omega, by decide, by decide, fun H3 y hy DA3 L3 => ⟨r, y, rfl, hr10, by omega, _, _, rfl, rfl, .inl ⟨by omega, by omega⟩, ?_⟩⟩⟩
      have e : V.int ((1 + (x : Int)) * ((r ^ y : Nat) : Int)) = ni ((1 + x) * r ^ y) := by
        show V.int _ = V.int _
        rw [Int.natCast_mul, Int.natCast_add]; rfl
      show Q (V.int ((1 + (x : Int)) * ((r ^ y : Nat) : Int))) H3
      rw [e]
      exact k H3 _ (n + 3) (Nat.mul_pos (by omega) (Nat.pow_pos (by omega))) (by omega) DA3 ((L1.trans L2).trans L3)
    refine ⟨_, rfl, d, cl, n + 1, 9, rfl, DA1, by omega, by decide, by decide, fun H2 x hx DA2 L2 => ⟨_, _, rfl, rfl, ?_⟩⟩
    refine ⟨_, rfl, small_line (Nat.le_of_ble_eq_true rfl), fun l hl => ⟨d, cl, l, n + 2, [1, 2, 4, 6], rfl, DA2.same (same_upd hl), by omega, ?_, upd_same, by decide, by decide, fun H3 t ht DA3 L3 => ?_⟩⟩
    · obtain ⟨_, cs, hc, _⟩ := DA2
      rintro rfl; rw [hc] at hl; cases hl
    have L4 : Lx d cl tb H H3 := ((L1.trans L2).trans (Lx.of (same_upd hl))).trans L3
    have ht6 : t ≤ 6 := by
      simp at ht
      omega
    refine ⟨(t : Int), rfl, by omega, by omega, ?_⟩
    rw [Int.toNat_natCast]
    refine for_range (lo := 0) (n := t) (fun i sg H' => ∃ y, 1 ≤ y ∧ DeckAt H' d cl (n + 3 + i) ∧ Lx d cl tb H H' ∧ ∃ o, sg = [some (.ref d), some (ni r), some (ni s1), some (ni y), o]) ⟨1 + x, by omega, DA3, L4, none, ?_⟩ ?_ ?_
    · rw [← one_add]; rfl
    · rintro i sg H' hi ⟨y, hy, DA', L', o, rfl⟩
      refine ⟨_, rfl, _, _, rfl, rfl, .inr ⟨by omega, by omega⟩, _, rfl, d, cl, n + 3 + i, 1000000, rfl, DA', by omega, by decide, by decide, fun H5 z hz DA5 L5 => ⟨_, _, rfl, rfl, y * 1000003 + z, by omega, DA5, L'.trans L5, some (V.int (0 + (i : Int))), ?_⟩⟩
      show [some (V.ref d), some (ni r), some (ni s1), some (V.int ((y : Int) * 1000003 + (z : Int))), _] = [_, _, _, some (V.int ((y * 1000003 + z : Nat) : Int)), _]
      rw [Int.natCast_add, Int.natCast_mul]; rfl
    · rintro sg H' ⟨y, hy, DA', L', o, rfl⟩
      exact ⟨_, rfl, k H' y _ hy (by omega) DA' L'⟩
end
end Wb

set_option Elab.async false
set_option linter.all false
set_option maxRecDepth 100000
set_option maxHeartbeats 4000000
namespace Wb
open PySem PySem.Spec PyProof.Rows L2
section
variable {X : Cx} {k : Nat} {e fe : Expr} {es : List Expr} {pos : Pos} {tf : TE} {t : TA}
/-- as pe_callM, told without the context, for use within comprehensions -/
def tCallMK (T : Addr → Sp → Prop) (tf : TE) (t : TA) : TE := fun sg H Q => tf sg H fun y H1 => ∃ a, y = V.ref a ∧ t sg H1 fun vs H2 => ∃ C sp dx fs, T C sp ∧ H2 a = some (.ins C dx fs) ∧ sp (V.ref a :: vs) H2 Q E0
theorem pe_callMK {T : Addr → Sp → Prop} (hT : ∀ C sp, T C sp → ∃ g, StX.CallO X.K C g ∧ FnR X.prog X.w X.K X.mg X.base CX0 k g sp) (hf : PE X fe tf) (hr : Room k X.A) (ha : PA X (e :: es) t)
    (hev : eval (.Call fe (e :: es) [] pos) X.env = (do callWith pos (← eval fe X.env) [] (backTo pos (starEach (e :: es) X.env)) (backToKw pos (keywordEach [] X.env))) := by rfl)
    (hse : starEach (e :: es) X.env = (false, eval e X.env) :: starEach es X.env := by rfl) (hpl : (backTo pos (starEach es X.env)).any (·.1) = false := by rfl) : PE X (.Call fe (e :: es) [] pos) (tCallMK T tf t) := by
  refine ⟨fun pins s sg H Q I h => Call_ (thn (hf.run pins s sg H _ I h) fun u s1 ⟨y, H1, I1, ry, a, ey, q⟩ => ?_) hev⟩
  subst ey
  obtain rfl : u = Value.ref a := ry
  refine StX.callO_with (thn (ha.run pos pins s1 sg H1 _ I1 q) fun us s2 ⟨vs, H2, I2, r, C, sp, dx, fs, hc, hi, q2⟩ => ?_) hse hpl
  obtain ⟨g, c, F⟩ := hT C sp hc
  have hi' : StX.InsC X H2 a C := .inr ⟨dx, fs, hi⟩
  obtain ⟨ox, od, J, hd⟩ := StX.insC_at I2 hi'
  exact ⟨⟨C, ox, od, J, hd⟩, StX.run_callO c F hr pass0 I2 hi' r q2⟩
end
/-! ### readers -/
inductive Rd where
  | sor (g : Sr) | mac (M : Mac)
def Rd.val : Rd → Nat → Int
  | .sor g, n => g.val n
  | .mac M, n => ((M.val n : Nat) : Int)
def RdAt (c : CC) (H : Hp) (a : Addr) : Rd → Prop
  | .sor g => SrAt c H a g ∧ g.ok
  | .mac M => MachAt c.CM H a M ∧ Raw M.b M.S M.B
theorem RdAt.keep {c : CC} {H H' : Hp} {a : Addr} {x : Rd} (h : RdAt c H a x) (k : Kp H H') : RdAt c H' a x := by
  cases x with
  | sor g => exact ⟨h.1.keep k, h.2⟩
  | mac M => exact ⟨h.1.keep k, h.2⟩
def TRd (c : CC) (C : Addr) (sp : Sp) : Prop := (C = c.CS ∧ sp = spS c) ∨ (C = c.CM ∧ sp = spMC c)
theorem SrAt.ins {c : CC} {H : Hp} {a : Addr} {g : Sr} (h : SrAt c H a g) : ∃ dx fs, H a = some (.ins c.CS dx fs) := by
  cases g with
  | leaf g => obtain ⟨dx, r, h1, _⟩ := h; exact ⟨dx, _, h1⟩
  | pair g g' => obtain ⟨dx, r, dr, x, y, h1, _⟩ := h; exact ⟨dx, _, h1⟩
theorem rd_reads {c : CC} {H : Hp} {a : Addr} {x : Rd} {n : Nat} {Q : VK} (h : RdAt c H a x) (hn : 1 ≤ n) (k : Q (.int (x.val n)) H) : ∃ C sp dx fs, TRd c C sp ∧ H a = some (.ins C dx fs) ∧ sp [V.ref a, ni n] H Q E0 := by
  cases x with
  | sor g =>
    obtain ⟨dx, fs, h1⟩ := h.1.ins
    exact ⟨c.CS, _, dx, fs, .inl ⟨rfl, rfl⟩, h1, a, g, n, rfl, h.1, h.2, hn, k⟩
  | mac M =>
    obtain ⟨dx, t, u, h1, _⟩ := id h.1
    exact ⟨c.CM, _, dx, _, .inr ⟨rfl, rfl⟩, h1, a, M, n, rfl, h.1, h.2, k⟩
/-- [r(n) for n in some] -/
theorem lc_reads {c : CC} {K : PySem.W.Frag} {l a D : Addr} {ns : List Nat} {x : Rd} {i j : Nat} {vs : List Nat} {σ : L2.St} {H : Hp} {Qd : Hp → Prop} (hl : H l = some (.lst (ns.map ni))) (hD : H D = none) (hz : ns.length ≤ 100) (ha : RdAt c H a x) (hn : ∀ n, n ∈ ns → 1 ≤ n)
    (h1 : ∀ n : Nat, ((wipe σ vs).set j (some (ni n)))[i]? = some (some (.ref a))) (h2 : ∀ n : Nat, ((wipe σ vs).set j (some (ni n)))[j]? = some (some (ni n))) (hw : ∀ v, wipe ((wipe σ vs).set j v) vs = wipe σ vs)
    (hd : ∀ H', Same H H' → H' D = some (.lst ((ns.map x.val).map V.int)) → Qd H') :
    ∃ W : Nat → Nat → Hp → Prop, (∃ m, W 0 m (upd H D (.lst []))) ∧ ∀ i' m H, W i' m H →
      ((Itl K l).stop i' H ∧ Qd H) ∨ ((Itl K l).go i' H ∧ ∃ Nx : Hp → Prop, (∀ H', Nx H' → ∃ m', m' < m ∧ W (i' + 1) m' H') ∧ ∀ x H', (Itl K l).yld i' H x H' → gName j x (wipe σ vs) H' fun σ2 H2 => wipe σ2 vs = wipe σ vs ∧ tYes σ2 H2 fun b H3 =>
        if b = true then tCallMK (TRd c) (tVar i) (tCons (tVar j) tNil) σ2 H3 fun y H4 => ∃ acc, H4 D = some (.lst acc) ∧ acc.length < sizeLine ∧ Nx (upd H4 D (.lst (acc ++ [y]))) else Nx H3) := by
  refine lc_list (K := K) (a := l) (xs := ns.map ni) (fun i' H' => Same H H' ∧ H' D = some (.lst (((ns.take i').map x.val).map V.int))) ⟨same_upd hD, upd_same⟩ (fun i' H' _ z => SqL.of (z.1 _ _ hl)) ?_ ?_
  · rintro i' v H' hv ⟨sm, h3⟩
    have hi : i' < ns.length := by
      have := (List.getElem?_eq_some_iff.mp hv).1
      rwa [List.length_map] at this
    rw [List.getElem?_map, List.getElem?_eq_getElem hi] at hv
    obtain rfl : ni ns[i'] = v := Option.some.inj hv
    refine ⟨hw _, ?_⟩
    dsimp only [tYes]
    rw [if_pos rfl]
    refine ⟨_, h1 _, a, rfl, _, h2 _, ?_⟩
    refine rd_reads (ha.keep (Kp.of sm)) (hn _ (List.getElem_mem hi)) ⟨_, h3, small_line' ?_, same_upd' sm hD, ?_⟩
    · rw [List.length_map, List.length_map, List.length_take]; omega
    · rw [upd_same, List.take_succ_eq_append_getElem hi, List.map_append, List.map_append]; rfl
  · rintro H' ⟨sm, h3⟩
    rw [List.length_map, List.take_length] at h3
    exact hd H' sm h3
section
variable {P : Program} {w : World} {K : PySem.W.Frag} {mg : Str → Option Value} {base : Heap} {c : CC} {f tb fRC fLC fMC fl fPC fSC : Addr}
theorem tr_rd (T : TS K mg c) (R : TR K mg c fRC fLC fMC fl fPC fSC) : ∀ C sp, TRd c C sp → ∃ g, StX.CallO K C g ∧ FnR P w K mg base CX0 5 g sp := by
  rintro C sp (⟨rfl, rfl⟩ | ⟨rfl, rfl⟩)
  · exact ⟨fSC, R.cS, ok_S T R⟩
  · exact ⟨fMC, R.cM, (ok_MC T R.dM).mono (by decide)⟩
/-! ### _law_are_alike -/
def spAlike (c : CC) : Sp := fun vs H Q _ => ∃ (a b l : Addr) (x y : Rd) (ns : List Nat), vs = [.ref a, .ref b, .ref l] ∧ RdAt c H a x ∧ RdAt c H b y ∧ H l = some (.lst (ns.map ni)) ∧ ns.length ≤ 100 ∧
  (∀ n, n ∈ ns → 1 ≤ n ∧ x.val n = y.val n ∧ 0 ≤ x.val n ∧ x.val n < 1000000) ∧ ∀ H' : Hp, Same H H' → Q (.bl true) H'
abbrev nAlike : List Str := ["_law_put", "_law_reader", "_law_some", "_law_n"]
theorem scAlike : FnScope nAlike ["_law_put", "_law_reader", "_law_some"] (defScope sAlike) := ⟨rfl, rfl, rfl, by decide +kernel, rfl, by decide +kernel, by decide +kernel⟩
theorem bdAlike : BindsSt "_law_are_alike" "_law_are_alike" sAlike ["_law_put", "_law_reader", "_law_some"] := fun _ _ _ _ _ _ us hl => match us, hl with | [_, _, _], _ => rfl
theorem ok_Alike (B : TB mg) (T : TS K mg c) (R : TR K mg c fRC fLC fMC fl fPC fSC) (D : Df K "_law_are_alike" "_law_are_alike" sAlike f) : FnS P w K mg base 6 f GA (spAlike c) := by
  refine D.okS scAlike bdAlike (fun vs H Q E h => ?_) (fun cdv A outer s H vs Q hr e0 ga h => ?_)
  · obtain ⟨_, _, _, _, _, _, rfl, _⟩ := h
    rfl
  · obtain ⟨a, b, l, x, y, ns, rfl, ha, hb, hl, hz, hv, k⟩ := h
    refine ⟨_, pss_one (ps_ret (pe_cmpR op_eq
      (pe_callB (cr_repr ga hr.units) (by rfl) B.repr (by decide +kernel) (pa_cons (pe_lc (own := [("_law_n", 3)]) (g := gName 3) (tt := tYes) rfl scAlike.nd (pi_list (pv 2)) (blkOk_by (N := nAlike) (sc := defScope sAlike) (by decide +kernel)) (fun _ _ _ _ _ => pg_name (i := 3) scAlike.nd rfl (.inl rfl)) (fun _ _ _ _ _ => pts_nil)
        (fun _ _ _ _ _ => pe_callMK (tr_rd T R) (pv 0) hr (pa_cons (pv 3) pa_nil))) pa_nil))
      (pe_callB (cr_repr ga hr.units) (by rfl) B.repr (by decide +kernel) (pa_cons (pe_lc (own := [("_law_n", 3)]) (g := gName 3) (tt := tYes) rfl scAlike.nd (pi_list (pv 2)) (blkOk_by (N := nAlike) (sc := defScope sAlike) (by decide +kernel)) (fun _ _ _ _ _ => pg_name (i := 3) scAlike.nd rfl (.inl rfl)) (fun _ _ _ _ _ => pts_nil)
        (fun _ _ _ _ _ => pe_callMK (tr_rd T R) (pv 1) hr (pa_cons (pv 3) pa_nil))) pa_nil)) (nomark _))), ?_⟩
    have h1 : ∀ n, n ∈ ns → 1 ≤ n := fun n hn => (hv n hn).1
    refine ⟨_, rfl, l, rfl, ⟨_, SqL.of hl⟩, fun D1 hD1 => ?_⟩
    refine lc_reads hl hD1 hz ha h1 (fun _ => rfl) (fun _ => rfl) (fun _ => rfl) fun H1 s1 e1 => ?_
    refine ⟨D1, ns.map x.val, rfl, SqL.of e1, fun z hz' => ?_, by rw [List.length_map]; omega, ?_⟩
    · obtain ⟨n, hn, rfl⟩ := List.mem_map.mp hz'
      exact (hv n hn).2.2
    refine ⟨_, rfl, l, rfl, ⟨_, SqL.of (s1 _ _ hl)⟩, fun D2 hD2 => ?_⟩
    refine lc_reads (s1 _ _ hl) hD2 hz (hb.keep (Kp.of s1)) h1 (fun _ => rfl) (fun _ => rfl) (fun _ => rfl) fun H2 s2 e2 => ?_
    have e3 : ns.map y.val = ns.map x.val := List.map_congr_left fun n hn => (hv n hn).2.1.symm
    rw [e3] at e2
    refine ⟨D2, ns.map x.val, rfl, SqL.of e2, fun z hz' => ?_, by rw [List.length_map]; omega, rfl, ?_⟩
    · obtain ⟨n, hn, rfl⟩ := List.mem_map.mp hz'
      exact (hv n hn).2.2
    · rw [decide_eq_true rfl]
      exact k H2 (s1.trans s2)
end
end Wb

set_option Elab.async false
set_option linter.all false
set_option maxRecDepth 100000
set_option maxHeartbeats 4000000
namespace Wb
open PySem PySem.Spec PyProof.Rows L2
theorem small_log {i : Int} (h : i.natAbs < 1000000) : i.natAbs.log2 < 1920 := by
  by_cases z : i.natAbs = 0
  · rw [z]; decide
  · exact Nat.lt_trans ((Nat.log2_lt z).mpr (show i.natAbs < 2 ^ 20 by omega)) (by decide)
theorem digv_range {p n : Nat} {a : Int} (hp : 2 ≤ p) (hn : 1 ≤ n) : 0 ≤ digv p a n ∧ digv p a n < own a + (p : Int) - 1 := by
  unfold digv own
  split
  · split <;> omega
  · have h := ld_range hp ((n : Int) - a).toNat (by omega)
    split <;> omega
theorem range_digv {p : Nat} {a : Int} {k : Nat} (hk : (k : Int) = own a) : ((List.range k).map fun i => digv p a (i + 1)) = (List.range k).map fun i : Nat => (i : Int) := by
  refine List.map_congr_left fun i hi => ?_
  have hi := List.mem_range.mp hi
  unfold own at hk
  unfold digv
  split at hk
  · omega
  · rw [if_pos (by omega)]; omega
section
variable {P : Program} {w : World} {K : PySem.W.Frag} {mg : Str → Option Value} {base : Heap} {c : CC} {f tb fRC fLC fMC fl fPC fSC fRI fLI fPI fSI pm fm pd fdg : Addr} {mc : Value}
/-! ### _law_bound_right -/
def spBound : Sp := fun vs H Q _ => ∃ (p : Nat) (a : Int) (l : Addr) (ns : List Nat), vs = [ni p, .int a, .ref l] ∧ 2 ≤ p ∧ p ≤ 7 ∧ -10 ≤ a ∧ a ≤ 10 ∧ H l = some (.lst (ns.map ni)) ∧ ns.length ≤ 100 ∧ (∀ n, n ∈ ns → 1 ≤ n) ∧ ∀ H' : Hp, Same H H' → Q (.bl true) H'
abbrev nBound : List Str := ["_law_p", "_law_bound", "_law_some", "_law_put", "_law_own", "_law_n", "_law_due"]
theorem scBound : FnScope nBound ["_law_p", "_law_bound", "_law_some"] (defScope sBound) := ⟨rfl, rfl, rfl, by decide +kernel, rfl, by decide +kernel, by decide +kernel⟩
theorem bdBound : BindsSt "_law_bound_right" "_law_bound_right" sBound ["_law_p", "_law_bound", "_law_some"] := fun _ _ _ _ _ _ us hl => match us, hl with | [_, _, _], _ => rfl
theorem ok_Bound (B : TB mg) (T : TS K mg c) (R : TR K mg c fRC fLC fMC fl fPC fSC) (M : TM K c fRI fLI fPI fSI) (C : TC K mg c pm fm pd fdg mc) (D : Df K "_law_bound_right" "_law_bound_right" sBound f) : FnS P w K mg base 6 f GA spBound := by
  refine D.okS scBound bdBound (fun vs H Q E h => ?_) (fun cdv A outer s H vs Q hr e0 ga h => ?_)
  · obtain ⟨_, _, _, _, rfl, _⟩ := h
    rfl
  · obtain ⟨p, a, l, ns, rfl, hp, hp7, ha1, ha2, hl, hz, hv, k⟩ := h
    obtain ⟨fd, Fd⟩ := C.dd
    have G2 : FnW P w K mg base CX0 3 fdg ["after"] (spSdigW2 c) := ok_SdigW2 T M Fd
    have GL : FnR P w K mg base CX0 1 fl spLd := ok_ld R.dl
    refine ⟨_, pss_cons (ps_asg (pe_tup (pa_cons (pe_cmethW (pe_glob (v := .ref c.CS) rfl T.mgS rfl) C.rd C.di G2 (hr.mono (by decide)) pass0 (pa_cons (pv 0) pa_nil) (pk_cons (pv 1) pk_nil)) (pa_cons (pe_callB (call_max2 rfl) (by rfl) B.max (by decide +kernel) (pa_cons (pv 1) (pa_cons pe_int pa_nil))) pa_nil)))
        (pg_tup rfl (pgs_cons (pg_name (i := 3) scBound.nd rfl (.inr rfl)) (pgs_cons (pg_name (i := 4) scBound.nd rfl (.inl rfl)) pgs_nil))))
      (pss_cons (ps_if (pt_cmpR op_ne (pe_callB SkE.call_repr_int (by rfl) B.repr (by decide +kernel) (pa_cons (pe_fld (pv 3) rfl) pa_nil)) (pe_callB SkE.call_repr_int (by rfl) B.repr (by decide +kernel) (pa_cons (pe_op op_sub (pe_op op_add (pv 4) (pv 0)) pe_int) pa_nil)) (nomark _)) (pss_one ps_never) pss_nil)
      (pss_cons (ps_for PassesOwn.never rfl (pi_list (pv 2)) (pg_name (i := 5) scBound.nd rfl (.inl rfl))
        (pss_cons (ps_set (i := 6) scBound.nd rfl (.inl rfl) (pe_ifExp (pt_cmpR op_le (pv 5) (pv 1) (nomark _)) (pe_op op_sub (pv 5) pe_int) (pe_op op_sub (pe_op op_add (pv 4) (pe_callR GL (hr.mono (by decide)) (by rfl) R.ml R.dl.kp (pa_cons (pe_op op_sub (pv 5) (pv 1)) (pa_cons (pv 0) pa_nil)))) pe_int)))
        (pss_one (ps_if (PW.pt (pw_or (pt_cmpR op_ne (pe_callB SkE.call_repr_int (by rfl) B.repr (by decide +kernel) (pa_cons (pe_callMK (tr_rd T R) (pv 3) hr (pa_cons (pv 5) pa_nil)) pa_nil)) (pe_callB SkE.call_repr_int (by rfl) B.repr (by decide +kernel) (pa_cons (pv 6) pa_nil)) (nomark _))
          (pw_or1 (pt_not (pt_chain op_le op_lt pe_int (pe_callMK (tr_rd T R) (pv 3) hr (pa_cons (pv 5) pa_nil)) (pe_fld (pv 3) rfl)))))) (pss_one ps_never) pss_nil))))
      (pss_one (ps_ret (pe_cmpR op_eq
        (pe_callB (cr_repr ga hr.units) (by rfl) B.repr (by decide +kernel) (pa_cons (pe_lc (own := [("_law_n", 5)]) (g := gName 5) (tt := tYes) rfl scBound.nd (pi_range2 (by rfl) B.range (pa_cons pe_int (pa_cons (pe_op op_add (pv 4) pe_int) pa_nil))) (blkOk_by (N := nBound) (sc := defScope sBound) (by decide +kernel)) (fun _ _ _ _ _ => pg_name (i := 5) scBound.nd rfl (.inl rfl)) (fun _ _ _ _ _ => pts_nil)
          (fun _ _ _ _ _ => pe_callMK (tr_rd T R) (pv 3) hr (pa_cons (pv 5) pa_nil))) pa_nil))
        (pe_callB (cr_repr ga hr.units) (by rfl) B.repr (by decide +kernel) (pa_cons (pe_listRg rfl (by rfl) B.list (prg_1 (by rfl) B.range (pv 4))) pa_nil)) (nomark _)))))), ?_⟩
    have hownb : 0 ≤ own a ∧ own a ≤ 10 := by unfold own; split <;> omega
    refine ⟨rfl, _, rfl, _, rfl, p, a, rfl, rfl, fun H1 x s1 nx l1 => ⟨_, rfl, _, _, rfl, small_line (Nat.le_of_ble_eq_true rfl), fun t ht => ⟨t, _, rfl, SqT.of upd_same, rfl, _, _, rfl, _, _, rfl, rfl, ?_⟩⟩⟩
    have eo : (if (0 : Int) > a then (0 : Int) else a) = own a := rfl
    rw [eo]
    have s2 := s1.trans (same_upd (o := .tup [V.ref x, V.int (own a)]) ht)
    have l2 := l1.keep (Kp.of (same_upd (o := .tup [V.ref x, V.int (own a)]) ht))
    have hl2 := s2 _ _ hl
    revert s2 l2 hl2
    generalize upd H1 t (HO.tup [V.ref x, V.int (own a)]) = H2
    intro s2 l2 hl2
    clear nx l1 s1 ht
    obtain ⟨dx, r, ex, ex'⟩ := id l2
    have ok : (Lf.digs p a).ok := ⟨hp, hp7, ha1, ha2⟩
    have rdx : RdAt c H2 x (.sor (.leaf (.digs p a))) := ⟨l2, ok⟩
    refine ⟨_, rfl, x, c.CS, dx, _, _, rfl, ex, T.clS, T.nSb, lk1 _ _ _, _, rfl, small_log ?_, _, rfl, _, rfl, _, _, rfl, rfl, _, _, rfl, rfl, _, rfl, small_log ?_, rfl, _, rfl, ite2 (fun h => absurd h ?_) (fun _ => ?_)⟩
    · show (own a + (p : Int) - 1).natAbs < 1000000
      omega
    · show (own a + (p : Int) - 1).natAbs < 1000000
      omega
    · show ¬ (!decide (V.str (toString (own a + (p : Int) - 1)) = V.str (toString (own a + (p : Int) - 1)))) = true
      simp
    refine ⟨_, rfl, l, rfl, ⟨_, SqL.of hl2⟩, ?_⟩
    refine for_list (K := K) (a := l) (xs := ns.map ni) (fun i sg H' => H' = H2 ∧ ∃ o5 o6, sg = [some (ni p), some (.int a), some (.ref l), some (.ref x), some (.int (own a)), o5, o6]) ⟨rfl, none, none, rfl⟩ (fun i sg H' _ z => by rw [z.1]; exact SqL.of hl2) ?_ ?_
    · rintro i v sg H' hvv ⟨rfl, o5, o6, rfl⟩
      have hi : i < ns.length := by
        have := (List.getElem?_eq_some_iff.mp hvv).1
        rwa [List.length_map] at this
      rw [List.getElem?_map, List.getElem?_eq_getElem hi] at hvv
      obtain rfl : ni ns[i] = v := Option.some.inj hvv
      have hn := hv _ (List.getElem_mem hi)
      generalize ns[i] = n at hn
      have dr := digv_range (a := a) hp hn
      refine ⟨_, rfl, _, rfl, _, _, rfl, rfl, _, rfl, ite2 (fun h => ?_) (fun h => ?_)⟩
      have h : (n : Int) ≤ a := of_decide_eq_true h
      refine ⟨_, rfl, _, _, rfl, rfl, ?_⟩
      have e1 : V.int ((n : Int) - 1) = V.int (digv p a n) := by unfold digv; rw [if_pos h]
      dsimp only
      rw [e1]
      rotate_left
      have h : ¬ (n : Int) ≤ a := fun z => h (decide_eq_true z)
      have e0 : [V.int ((n : Int) - a), V.int (p : Int)] = [ni ((n : Int) - a).toNat, ni p] := by
        show [V.int ((n : Int) - a), V.int (p : Int)] = [V.int ((((n : Int) - a).toNat : Nat) : Int), V.int (p : Int)]
        rw [Int.toNat_of_nonneg (by omega)]
      refine ⟨_, rfl, _, rfl, _, rfl, _, _, rfl, rfl, _, rfl, ((n : Int) - a).toNat, p, e0, by omega, hp, by omega, _, _, rfl, rfl, _, _, rfl, rfl, ?_⟩
      have e1 : V.int (own a + ((ld p ((n : Int) - a).toNat : Nat) : Int) - 1) = V.int (digv p a n) := by unfold digv; rw [if_neg h]
      dsimp only
      rw [e1]
      all_goals
        refine ⟨_, rfl, x, rfl, _, rfl, rd_reads rdx hn ⟨_, rfl, small_log ?_, _, rfl, _, rfl, small_log ?_, rfl, _, rfl, ?_⟩⟩
        · show (digv p a n).natAbs < 1000000
          omega
        · omega
        refine ite2 (fun h => absurd h ?_) (fun _ => ?_)
        · show ¬ (!decide (V.str (toString (digv p a n)) = V.str (toString (digv p a n)))) = true
          simp
        refine ⟨_, rfl, x, rfl, _, rfl, rd_reads rdx hn ⟨_, _, rfl, rfl, _, rfl, ?_⟩⟩
        rw [decide_eq_true (show (0 : Int) ≤ Rd.val (.sor (.leaf (.digs p a))) n from dr.1)]
        refine iteT ⟨_, rfl, x, c.CS, dx, _, _, rfl, ex, T.clS, T.nSb, lk1 _ _ _, _, _, rfl, rfl, _, rfl, ?_⟩
        rw [decide_eq_true (show Rd.val (.sor (.leaf (.digs p a))) n < Lf.boxes (.digs p a) from dr.2)]
        exact ite2 (fun h => absurd h (by simp)) (fun _ => ⟨rfl, _, _, rfl⟩)
    · rintro sg H' ⟨rfl, o5, o6, rfl⟩
      obtain ⟨kk, hk⟩ : ∃ kk : Nat, (kk : Int) = own a := ⟨(own a).toNat, by omega⟩
      have hk10 : kk ≤ 10 := by omega
      refine ⟨_, rfl, _, _, rfl, rfl, 1, own a + 1, rfl, ⟨by omega, by omega, by omega, by omega⟩, fun D1 hD1 => ?_⟩
      have e0 : (own a + 1 - 1).toNat = kk := by omega
      rw [e0]
      refine lc_range (lo := 1) (n := kk) (fun i H1 => Same H' H1 ∧ H1 D1 = some (.lst (((List.range i).map fun i => digv p a (i + 1)).map V.int))) ⟨same_upd hD1, upd_same⟩ ?_ ?_
      · rintro i H1 hi ⟨sm, h3⟩
        refine ⟨rfl, ?_⟩
        dsimp only [tYes]
        rw [if_pos rfl]
        have e1 : V.int (1 + (i : Int)) = ni (i + 1) := by
          show V.int _ = V.int _
          congr 1
          omega
        refine ⟨_, rfl, x, rfl, V.int (1 + (i : Int)), rfl, ?_⟩
        rw [e1]
        refine rd_reads (rdx.keep (Kp.of sm)) (by omega) ⟨_, h3, small_line' ?_, same_upd' sm hD1, ?_⟩
        · rw [List.length_map, List.length_map, List.length_range]; omega
        · rw [upd_same, List.range_succ, List.map_append, List.map_append]; rfl
      · rintro H1 ⟨sm, h3⟩
        rw [range_digv hk] at h3
        refine ⟨D1, _, rfl, SqL.of h3, ?_, ?_, ?_⟩
        · intro z hz'
          obtain ⟨i, hi, rfl⟩ := List.mem_map.mp hz'
          have := List.mem_range.mp hi
          omega
        · rw [List.length_map, List.length_range]; omega
        refine ⟨_, rfl, own a, rfl, RgOk.of_le (by omega) (by omega) (by omega) (by omega), fun q hq => ?_⟩
        rw [← hk, rgV_ni]
        refine ⟨q, (List.range kk).map fun i : Nat => (i : Int), rfl, SqL.of (by rw [upd_same, int_ni]), ?_, ?_, rfl, ?_⟩
        · intro z hz'
          obtain ⟨i, hi, rfl⟩ := List.mem_map.mp hz'
          have := List.mem_range.mp hi
          omega
        · rw [List.length_map, List.length_range]; omega
        · rw [decide_eq_true rfl]
          exact k _ ((s2.trans sm).trans (same_upd hq))
end
end Wb

set_option Elab.async false
set_option linter.all false
set_option maxRecDepth 100000
set_option maxHeartbeats 4000000
namespace Wb
open PySem PySem.Spec PyProof.Rows L2
theorem at_name {i : Nat} {v : V} {sg : L2.St} {H : Hp} {Q : L2.St → Hp → Prop} (h : Q (sg.set i (some v)) H) : gName i v sg H Q := h
theorem two_add (x : Nat) : V.int (2 + (x : Int)) = ni (2 + x) := by
  show V.int _ = V.int _
  rw [Int.natCast_add]; rfl
theorem DeckAt.upd {H : Hp} {d cl p : Addr} {n : Nat} {o : HO} (k : DeckAt H d cl n) (h1 : p ≠ d) (h2 : p ≠ cl) : DeckAt (upd H p o) d cl n := by
  obtain ⟨⟨bl, b1, b2, hd⟩, cs, hc, hl⟩ := k
  exact ⟨⟨bl, b1, b2, by rw [upd_ne h1.symm]; exact hd⟩, cs, by rw [upd_ne h2.symm]; exact hc, hl⟩
theorem DeckAt.fresh {H : Hp} {d cl p : Addr} {n : Nat} (k : DeckAt H d cl n) (h : H p = none) : p ≠ d ∧ p ≠ cl := by
  obtain ⟨⟨bl, b1, b2, hd⟩, cs, hc, hl⟩ := k
  constructor
  · rintro rfl; rw [hd] at h; cases h
  · rintro rfl; rw [hc] at h; cases h
theorem Lx.upd_new {d cl tb p : Addr} {H H1 : Hp} {xs : List V} {o : HO} (l : Lx d cl tb H H1) (h : H p = none) (h1 : H1 p = some (.lst xs)) : Lx d cl tb H (upd H1 p o) :=
  ⟨fun b u n1 n2 n e => by rw [upd_ne (ne_of_none e h)]; exact l.keep b u n1 n2 n e, fun b e => l.non b (non_upd h1 b e), fun t => tab_upd h1 (fun _ z => nomatch z) lst_code (l.tab t)⟩
theorem fM_sorter (b : Int) (t u : Addr) (n : Int) : (fM b t u n).lookup ("sorter" : Str) = none :=
  (lk2 (by decide +kernel) _ _).trans ((lk2 (by decide +kernel) _ _).trans ((lk2 (by decide +kernel) _ _).trans ((lk2 (by decide +kernel) _ _).trans rfl)))
/-- what stands while _law_right runs -/
structure RS (c : CC) (tb d cl l a5 a6 a7 a8 : Addr) (p m n : Nat) (ns : List Nat) (st : List (Nat × Nat)) (S : List (List Nat)) (H : Hp) : Prop where
  deck : DeckAt H d cl n
  tab : NdefX.TabN H tb nmOn
  some_ : H l = some (.lst (ns.map ni))
  dig : LeafAt c H a5 (.digs p 0)
  lef : LeafAt c H a6 (.modu m)
  la : MachAt c.CM H a7 (lastM p)
  le : MachAt c.CM H a8 (modM p m st S)
section
variable {c : CC} {tb d cl l a5 a6 a7 a8 : Addr} {p m n : Nat} {ns : List Nat} {st : List (Nat × Nat)} {S : List (List Nat)} {H H' : Hp}
theorem RS.ex (r : RS c tb d cl l a5 a6 a7 a8 p m n ns st S H) (e : Ex tb H H') : RS c tb d cl l a5 a6 a7 a8 p m n ns st S H' :=
  ⟨r.deck.ex e, e.tab r.tab, e.ext _ _ r.some_ (fun _ z => nomatch z), r.dig.keep e.kp, r.lef.keep e.kp, r.la.keep e.kp, r.le.keep e.kp⟩
theorem RS.same (r : RS c tb d cl l a5 a6 a7 a8 p m n ns st S H) (e : Same H H') : RS c tb d cl l a5 a6 a7 a8 p m n ns st S H' := r.ex (Ex.of e)
theorem RS.lx {n' : Nat} (r : RS c tb d cl l a5 a6 a7 a8 p m n ns st S H) (hl : l ≠ cl) (e : Lx d cl tb H H') (k : DeckAt H' d cl n') : RS c tb d cl l a5 a6 a7 a8 p m n' ns st S H' := by
  have kp := e.kp r.deck
  have ld : l ≠ d := by
    obtain ⟨⟨_, _, _, hd⟩, _⟩ := r.deck
    rintro rfl
    have := r.some_
    rw [hd] at this; cases this
  exact ⟨k, e.tab r.tab, e.keep _ _ ld hl (fun _ z => nomatch z) r.some_, r.dig.keep kp, r.lef.keep kp, r.la.keep kp, r.le.keep kp⟩
end
section
variable {p m n : Nat} {a : Int}
theorem val_last (hp : 2 ≤ p) (hn : 1 ≤ n) : (((lastM p).val n : Nat) : Int) = digv p 0 n := by
  rw [last_val hp hn]
  have h := ld_range hp n hn
  unfold digv own
  rw [if_neg (by omega), if_neg (by omega)]
  have e : ((n : Int) - 0).toNat = n := by omega
  rw [e]
  omega
theorem val_mod {b : Nat} {st : List (Nat × Nat)} {S : List (List Nat)} (e : Expl b m st S) (hb : 2 ≤ b) (hm : 1 ≤ m) : (((modM b m st S).val n : Nat) : Int) = ((n % m : Nat) : Int) := by
  have h := e.val hb hm n
  show ((((modB st).getD (run S b 0 n) 0 : Nat)) : Int) = _
  rw [h]
theorem own0 : own 0 = 0 := by unfold own; simp
theorem boxes_last (hp : 2 ≤ p) : Lf.boxes (.mach (lastM p)) = Lf.boxes (.digs p 0) := by
  show ((p - 1 : Nat) : Int) = own 0 + (p : Int) - 1
  rw [own0]; omega
theorem lf_range {g : Lf} (ok : g.ok) (hn : 1 ≤ n) : 0 ≤ g.val n ∧ g.val n < 200 := by
  cases g with
  | modu m =>
    have h1 : 1 ≤ m := ok.1
    have h2 : m ≤ 12 := ok.2
    have := Nat.mod_lt n (show m > 0 by omega)
    simp only [Lf.val]
    omega
  | digs p a =>
    obtain ⟨h1, h2, h3, h4⟩ := ok
    have := digv_range (p := p) (a := a) h1 hn
    have ho : own a ≤ 10 := by unfold own; split <;> omega
    simp only [Lf.val]
    omega
  | mach M =>
    have h1 : M.Ok := ok
    have h2 := h1.raw.box _ (h1.raw.run_lt n 0 h1.raw.pos)
    simp only [Lf.val, Mac.val]
    omega
theorem sr_range {g : Sr} (ok : g.ok) (hn : 1 ≤ n) : 0 ≤ g.val n ∧ g.val n < 1000000 := by
  cases g with
  | leaf g =>
    have h := lf_range (g := g) ok hn
    simp only [Sr.val]
    omega
  | pair f g =>
    have h1 := lf_range (g := f) ok.1 hn
    have h2 := lf_range (g := g) ok.2 hn
    have h3 := boxes_small ok.2
    have h4 : 0 ≤ f.val n * g.boxes := Int.mul_nonneg h1.1 (by omega)
    have h5 : f.val n * g.boxes ≤ 200 * 200 := Int.mul_le_mul (by omega) (by omega) (by omega) (by omega)
    simp only [Sr.val]
    omega
theorem val_prod {p m : Nat} {st : List (Nat × Nat)} {S : List (List Nat)} {k n : Nat} (hp : 2 ≤ p) (h10 : p ≤ 10) (hm : 1 ≤ m) (h12 : m ≤ 12) (e : Expl p m st S) (hn : 1 ≤ n) :
    (((⟨p, prodS (lastM p).S (modM p m st S).S, prodB (modM p m st S).many (lastM p).B (modM p m st S).B, k⟩ : Mac).val n : Nat) : Int) = Sr.val (.pair (.digs p 0) (.modu m)) n := by
  have h := prod_val (k := m) (last_raw hp h10) (e.raw hp h10 h12) n
  have h1 := val_last hp hn
  have h2 := val_mod (n := n) e hp hm
  show (((prodB m (lastB p) (modB st)).getD (run (prodS (lastS p) S) p 0 n) 0 : Nat) : Int) = digv p 0 n * (m : Int) + ((n % m : Nat) : Int)
  rw [h, ← h1, ← h2, Int.natCast_add, Int.natCast_mul]; rfl
theorem val_cross {p m : Nat} {st : List (Nat × Nat)} {S : List (List Nat)} {n : Nat} (hp : 2 ≤ p) (hm : 1 ≤ m) (e : Expl p m st S) (hn : 1 ≤ n) :
    Sr.val (.pair (.mach (modM p m st S)) (.mach (lastM p))) n = Sr.val (.pair (.modu m) (.digs p 0)) n := by
  show (((modM p m st S).val n : Nat) : Int) * Lf.boxes (.mach (lastM p)) + (((lastM p).val n : Nat) : Int) = ((n % m : Nat) : Int) * Lf.boxes (.digs p 0) + digv p 0 n
  rw [val_mod e hp hm, val_last hp hn, boxes_last hp]
theorem val_lone {p : Nat} {a : Int} {n : Nat} : Sr.val (.pair (.modu 1) (.digs p a)) n = digv p a n := by
  show ((n % 1 : Nat) : Int) * _ + digv p a n = _
  rw [Nat.mod_one]
  simp
end
theorem modM_ok {b m : Nat} {st : List (Nat × Nat)} {S : List (List Nat)} (e : Expl b m st S) (hb : 2 ≤ b) (h10 : b ≤ 10) (hm : 1 ≤ m) (h12 : m ≤ 12) : (modM b m st S).Ok := ⟨e.raw hb h10 h12, fun F c => e.top hb hm c, by show m ≤ 200; omega⟩
/-- Machine's methods -/
structure TN (K : PySem.W.Frag) (mg : Str → Option Value) (c : CC) (fmm fsr plm flm pmm fmo cm fex : Addr) (mcM : Value) : Prop where
  first : PySem.W.selfFirst K c.CM = true
  at_ : PySem.W.findIn K (.ref c.CM) (PySem.dunder "mul") = some (some (.ref fmm))
  fn : PySem.W.isFn K (.ref fmm) = true
  dm : Df K "__mul__" "Machine.__mul__" sMmul fmm
  me : Meth K c.CM "sorter" fsr
  ds : Df K "sorter" "Machine.sorter" sMsort fsr
  rd : ClX.CRead K c.CM mcM
  la : CSta K c.CM mcM "last" plm flm
  dl : Df K "last" "Machine.last" sMlast flm
  mo : CSta K c.CM mcM "modulo" pmm fmo
  dmo : DfC K "modulo" "Machine.modulo" sMmod fmo cm
  de : Df K "explored" "explored" sExp fex
  mex : mg "explored" = some (.ref fex)
structure TZ (K : PySem.W.Frag) (mg : Str → Option Value) (fb1 fba fal fbd : Addr) : Prop where
  d1 : Df K "barring_one" "barring_one" sB1 fb1
  m1 : mg "barring_one" = some (.ref fb1)
  db : Df K "barring" "barring" sBar fba
  mb : mg "barring" = some (.ref fba)
  da : Df K "_law_are_alike" "_law_are_alike" sAlike fal
  ma : mg "_law_are_alike" = some (.ref fal)
  dd : Df K "_law_bound_right" "_law_bound_right" sBound fbd
  md : mg "_law_bound_right" = some (.ref fbd)
section
variable {P : Program} {w : World} {K : PySem.W.Frag} {mg : Str → Option Value} {base : Heap} {c : CC} {f tb fRC fLC fMC fl fPC fSC fRI fLI fPI fSI pm fm pd fdg fmul fMI fr fps fdr fpk fpw fnm fmm fsr plm flm pmm fmo cm fex fb1 fba fal fbd : Addr} {mc mcM : Value}
/-! ### _law_right -/
def spRight (tb : Addr) : Sp := fun vs H Q _ => ∃ (d cl : Addr) (n : Nat), vs = [.ref d] ∧ DeckAt H d cl n ∧ n ≤ 900000 ∧ NdefX.TabN H tb nmOn ∧ ∀ (H' : Hp) (n' : Nat), n' ≤ n + 100 → DeckAt H' d cl n' → NdefX.TabN H' tb nmOn → Q (.bl true) H'
abbrev nRight : List Str := ["_law_deck_here", "_law_p", "_law_parts", "_law_radix", "_law_some", "_law_digits", "_law_leftover", "_law_last", "_law_left", "_law_bound", "_law_both", "_law_put", "_law_lone", "_law_k", "_law_n"]
theorem scRight : FnScope nRight ["_law_deck_here"] (defScope sRight) := ⟨rfl, rfl, rfl, by decide +kernel, rfl, by decide +kernel, by decide +kernel⟩
theorem bdRight : BindsSt "_law_right" "_law_right" sRight ["_law_deck_here"] := fun _ _ _ _ _ _ us hl => match us, hl with | [_], _ => rfl
theorem ok_Right (B : TB mg) (T : TS K mg c) (R : TR K mg c fRC fLC fMC fl fPC fSC) (M : TM K c fRI fLI fPI fSI) (C : TC K mg c pm fm pd fdg mc) (U : TU K c fmul) (MA : TMa K mg c fMI fr fps) (TD' : TD K mg fdr fpk fpw fnm) (N : TN K mg c fmm fsr plm flm pmm fmo cm fex mcM) (Z : TZ K mg fb1 fba fal fbd)
    (TBl : LamX.TabB base mg cm tb) (D : Df K "_law_right" "_law_right" sRight f) : FnS P w K mg base 7 f GA (spRight tb) := by
  refine D.okS scRight bdRight (fun vs H Q E h => ?_) (fun cdv A outer s H vs Q hr e0 ga h => ?_)
  · obtain ⟨_, _, _, rfl, _⟩ := h
    rfl
  · obtain ⟨d, cl, n, rfl, DA, hn, hT, k⟩ := h
    obtain ⟨fd, Fd⟩ := C.dd
    have nd := scRight.nd
    have GD : FnR P w K mg base CX0 1 fdr (spDraw tb) := ok_Draw B TD'.dr
    have GP : FnR P w K mg base CX0 2 fpk (spPick tb) := ok_Pick B TD'
    have GN : FnR P w K mg base CX0 3 fnm (spNum tb) := ok_Num B TD'
    have GW1 : FnW P w K mg base CX0 3 fdg ["prime"] (spSdigW1 c) := ok_SdigW1 T M Fd
    have GW2 : FnW P w K mg base CX0 3 fdg ["after"] (spSdigW2 c) := ok_SdigW2 T M Fd
    have GWm : FnW P w K mg base CX0 3 fm ["modulus"] (spSmodW c) := ok_SmodW T M C.dm
    have GL : FnR P w K mg base CX0 4 flm (spMlast c) := ok_Mlast T B MA N.dl
    have GO : FnR P w K mg base CX0 4 fmo (spMmod c tb) := ok_Mmod T B MA N.de N.mex N.dmo TBl
    have GA' : FnS P w K mg base 6 fal GA (spAlike c) := ok_Alike B T R Z.da
    have GB : FnS P w K mg base 6 fbd GA spBound := ok_Bound B T R M C Z.dd
    have GMs : FnR P w K mg base CX0 3 fmul (spSmul c) := ok_Smul T M U.d
    have GMm : FnR P w K mg base CX0 4 fmm (spMmul c) := ok_Mmul T B MA N.dm
    have GS : FnR P w K mg base CX0 3 fsr (spMsort c) := ok_Msort T M N.ds
    have GBa : FnR P w K mg base CX0 5 fba (spBar c) := ok_Bar T M C U Z.d1 Z.m1 Z.db
    refine ⟨_, pss_cons (ps_asg (pe_tup (pa_cons (pe_callR GP (hr.mono (by decide)) (by rfl) TD'.mpk TD'.pk.kp (pa_cons (pv 0) (pa_cons (pe_lst (pa_cons pe_int (pa_cons pe_int (pa_cons pe_int (pa_cons pe_int pa_nil))))) pa_nil)))
          (pa_cons (pe_op op_add pe_int (pe_callR GD (hr.mono (by decide)) (by rfl) TD'.mdr TD'.dr.kp (pa_cons (pv 0) (pa_cons pe_int pa_nil))))
          (pa_cons (pe_op op_add pe_int (pe_callR GD (hr.mono (by decide)) (by rfl) TD'.mdr TD'.dr.kp (pa_cons (pv 0) (pa_cons pe_int pa_nil)))) pa_nil))))
        (pg_tup rfl (pgs_cons (pg_name (i := 1) nd rfl (.inr rfl)) (pgs_cons (pg_name (i := 2) nd rfl (.inr rfl)) (pgs_cons (pg_name (i := 3) nd rfl (.inl rfl)) pgs_nil)))))
      (pss_cons (ps_setLc (i := 4) (own := [("_law_k", 13)]) (g := gName 13) (tt := tYes) rfl nd rfl rfl (sw_true rfl rfl rfl (by decide +kernel)) (pi_range1 (by rfl) B.range (pa_cons pe_int pa_nil)) (blkOk_by (N := nRight) (sc := defScope sRight) (by decide +kernel)) (fun _ _ _ _ _ => pg_name (i := 13) nd rfl (.inl rfl)) (fun _ _ _ _ _ => pts_nil)
          (fun _ _ _ _ _ => pe_callR GN (hr.mono (by decide)) (by rfl) TD'.mnm TD'.nm.kp (pa_cons (pv 0) (pa_cons (pv 1) pa_nil))))
      (pss_cons (ps_asg (pe_tup (pa_cons (pe_cmethW0 (pe_glob (v := .ref c.CS) rfl T.mgS rfl) C.rd C.di GW1 (hr.mono (by decide)) pass0 (pk_cons (pv 1) pk_nil)) (pa_cons (pe_cmethW0 (pe_glob (v := .ref c.CS) rfl T.mgS rfl) C.rd C.mo GWm (hr.mono (by decide)) pass0 (pk_cons (pv 2) pk_nil)) pa_nil)))
        (pg_tup rfl (pgs_cons (pg_name (i := 5) nd rfl (.inl rfl)) (pgs_cons (pg_name (i := 6) nd rfl (.inr rfl)) pgs_nil))))
      (pss_cons (ps_par (i := 7) (j := 8) rfl nd rfl rfl (by decide) rfl rfl (pa_cons (pe_smeth (pe_glob (v := .ref c.CM) rfl T.mgM rfl) N.rd N.la GL (hr.mono (by decide)) pass0 (pa_cons (pv 1) pa_nil)) (pa_cons (pe_smeth (pe_glob (v := .ref c.CM) rfl T.mgM rfl) N.rd N.mo GO (hr.mono (by decide)) pass0 (pa_cons (pv 1) (pa_cons (pv 2) pa_nil))) pa_nil)) rfl)
      (pss_cons (ps_if (PW.pt (pw_or (pt_not (pt_val (pe_callG GA' ga hr (by rfl) Z.ma Z.da.kp (pa_cons (pv 5) (pa_cons (pv 7) (pa_cons (pv 4) pa_nil))))))
          (pw_or1 (pt_not (pt_val (pe_callG GA' ga hr (by rfl) Z.ma Z.da.kp (pa_cons (pv 6) (pa_cons (pe_smeth (pe_glob (v := .ref c.CM) rfl T.mgM rfl) N.rd N.mo GO (hr.mono (by decide)) pass0 (pa_cons (pv 3) (pa_cons (pv 2) pa_nil))) (pa_cons (pv 4) pa_nil))))))))) (pss_one ps_never) pss_nil)
      (pss_cons (ps_if (pt_not (pt_val (pe_callG GA' ga hr (by rfl) Z.ma Z.da.kp (pa_cons (pe_op (op_own_mul U.first U.at_ U.fn GMs (hr.mono (by decide)) pass0) (pv 5) (pv 6)) (pa_cons (pe_op (op_own_mul N.first N.at_ N.fn GMm (hr.mono (by decide)) pass0) (pv 7) (pv 8)) (pa_cons (pv 4) pa_nil)))))) (pss_one ps_never) pss_nil)
      (pss_cons (ps_if (pt_not (pt_val (pe_callG GA' ga hr (by rfl) Z.ma Z.da.kp (pa_cons (pe_op (op_own_mul U.first U.at_ U.fn GMs (hr.mono (by decide)) pass0) (pe_methR0 (pv 8) T.clM N.me GS (hr.mono (by decide))) (pe_methR0 (pv 7) T.clM N.me GS (hr.mono (by decide)))) (pa_cons (pe_op (op_own_mul U.first U.at_ U.fn GMs (hr.mono (by decide)) pass0) (pv 6) (pv 5)) (pa_cons (pv 4) pa_nil)))))) (pss_one ps_never) pss_nil)
      (pss_cons (ps_if (pt_cmpR op_ne (pe_callB (cr_repr ga hr.units) (by rfl) B.repr (by decide +kernel) (pa_cons (pe_lst (pa_cons (pe_fld (pv 5) rfl) (pa_cons (pe_fld (pv 6) rfl) (pa_cons (pe_fld (pe_op (op_own_mul U.first U.at_ U.fn GMs (hr.mono (by decide)) pass0) (pv 5) (pv 6)) rfl) pa_nil)))) pa_nil))
          (pe_callB (cr_repr ga hr.units) (by rfl) B.repr (by decide +kernel) (pa_cons (pe_lst (pa_cons (pe_op op_sub (pv 1) pe_int) (pa_cons (pv 2) (pa_cons (pe_op op_mul (pe_op op_sub (pv 1) pe_int) (pv 2)) pa_nil)))) pa_nil)) (nomark _)) (pss_one ps_never) pss_nil)
      (pss_cons (ps_set (i := 9) nd rfl (.inl rfl) (pe_op op_sub (pe_callR GD (hr.mono (by decide)) (by rfl) TD'.mdr TD'.dr.kp (pa_cons (pv 0) (pa_cons pe_int pa_nil))) pe_int))
      (pss_cons (ps_asg (pe_tup (pa_cons (pe_callR GBa (hr.mono (by decide)) (by rfl) Z.mb Z.db.kp (pa_cons (pe_tup (pa_cons pe_str (pa_cons (pv 9) (pa_cons (pv 1) pa_nil)))) (pa_cons (pe_tup (pa_cons pe_str (pa_cons (pv 2) pa_nil))) pa_nil)))
          (pa_cons (pe_cmethW (pe_glob (v := .ref c.CS) rfl T.mgS rfl) C.rd C.di GW2 (hr.mono (by decide)) pass0 (pa_cons (pv 1) pa_nil) (pk_cons (pv 9) pk_nil)) pa_nil)))
        (pg_tup rfl (pgs_cons (pg_name (i := 10) nd rfl (.inr rfl)) (pgs_cons (pg_name (i := 11) nd rfl (.inr rfl)) pgs_nil))))
      (pss_cons (ps_if (pt_cmpR op_ne
          (pe_callB (cr_repr ga hr.units) (by rfl) B.repr (by decide +kernel) (pa_cons (pe_lc (own := [("_law_n", 14)]) (g := gName 14) (tt := tYes) rfl nd (pi_list (pv 4)) (blkOk_by (N := nRight) (sc := defScope sRight) (by decide +kernel)) (fun _ _ _ _ _ => pg_name (i := 14) nd rfl (.inl rfl)) (fun _ _ _ _ _ => pts_nil) (fun _ _ _ _ _ => pe_callMK (tr_rd T R) (pv 10) (hr.mono (by decide)) (pa_cons (pv 14) pa_nil))) pa_nil))
          (pe_callB (cr_repr ga hr.units) (by rfl) B.repr (by decide +kernel) (pa_cons (pe_lc (own := [("_law_n", 14)]) (g := gName 14) (tt := tYes) rfl nd (pi_list (pv 4)) (blkOk_by (N := nRight) (sc := defScope sRight) (by decide +kernel)) (fun _ _ _ _ _ => pg_name (i := 14) nd rfl (.inl rfl)) (fun _ _ _ _ _ => pts_nil)
            (fun _ _ _ _ _ => pe_op op_add (pe_op op_mul (pe_callMK (tr_rd T R) (pv 11) (hr.mono (by decide)) (pa_cons (pv 14) pa_nil)) (pv 2)) (pe_callMK (tr_rd T R) (pv 6) (hr.mono (by decide)) (pa_cons (pv 14) pa_nil)))) pa_nil)) (nomark _)) (pss_one ps_never) pss_nil)
      (pss_cons (ps_set (i := 12) nd rfl (.inr rfl) (pe_callR GBa (hr.mono (by decide)) (by rfl) Z.mb Z.db.kp (pa_cons (pe_tup (pa_cons pe_str (pa_cons pe_str (pa_cons pe_str pa_nil)))) (pa_cons (pe_tup (pa_cons pe_str (pa_cons (pv 9) (pa_cons (pv 1) pa_nil)))) pa_nil))))
      (pss_cons (ps_if (pt_cmpR op_ne
          (pe_callB (cr_repr ga hr.units) (by rfl) B.repr (by decide +kernel) (pa_cons (pe_op op_cat (pe_lst (pa_cons (pe_fld (pv 12) rfl) pa_nil)) (pe_lc (own := [("_law_n", 14)]) (g := gName 14) (tt := tYes) rfl nd (pi_list (pv 4)) (blkOk_by (N := nRight) (sc := defScope sRight) (by decide +kernel)) (fun _ _ _ _ _ => pg_name (i := 14) nd rfl (.inl rfl)) (fun _ _ _ _ _ => pts_nil) (fun _ _ _ _ _ => pe_callMK (tr_rd T R) (pv 12) (hr.mono (by decide)) (pa_cons (pv 14) pa_nil)))) pa_nil))
          (pe_callB (cr_repr ga hr.units) (by rfl) B.repr (by decide +kernel) (pa_cons (pe_op op_cat (pe_lst (pa_cons (pe_fld (pv 11) rfl) pa_nil)) (pe_lc (own := [("_law_n", 14)]) (g := gName 14) (tt := tYes) rfl nd (pi_list (pv 4)) (blkOk_by (N := nRight) (sc := defScope sRight) (by decide +kernel)) (fun _ _ _ _ _ => pg_name (i := 14) nd rfl (.inl rfl)) (fun _ _ _ _ _ => pts_nil) (fun _ _ _ _ _ => pe_callMK (tr_rd T R) (pv 11) (hr.mono (by decide)) (pa_cons (pv 14) pa_nil)))) pa_nil)) (nomark _)) (pss_one ps_never) pss_nil)
      (pss_one (ps_ret (pe_callG GB ga hr (by rfl) Z.md Z.dd.kp (pa_cons (pv 1) (pa_cons (pv 9) (pa_cons (pv 4) pa_nil)))))))))))))))))), ?_⟩
    -- the draws
    refine ⟨_, rfl, small_line (Nat.le_of_ble_eq_true rfl), fun l0 hl0 => ⟨d, cl, l0, n, [2, 3, 5, 7], rfl, DA.same (same_upd hl0), by omega, (DA.fresh hl0).2, upd_same, by decide, by decide, fun H1 p hp DA1 L1 => ?_⟩⟩
    have L1 : Lx d cl tb H H1 := (Lx.of (same_upd hl0)).trans L1
    have hp2 : 2 ≤ p ∧ p ≤ 7 := by
      simp at hp
      omega
    refine ⟨_, rfl, d, cl, n + 1, 12, rfl, DA1, by omega, by decide, by decide, fun H2 x2 hx2 DA2 L2 => ⟨_, _, rfl, rfl, ?_⟩⟩
    refine ⟨_, rfl, d, cl, n + 2, 9, rfl, DA2, by omega, by decide, by decide, fun H3 x3 hx3 DA3 L3 => ⟨_, _, rfl, rfl, small_line (Nat.le_of_ble_eq_true rfl), fun t ht => ⟨t, _, rfl, SqT.of upd_same, rfl, _, _, rfl, _, _, rfl, _, _, rfl, rfl, ?_⟩⟩⟩
    have s4 := same_upd (o := .tup [ni p, V.int (1 + (x2 : Int)), V.int (2 + (x3 : Int))]) ht
    have DA4 := DA3.same s4
    have L4 : Lx d cl tb H _ := ((L1.trans L2).trans L3).trans (Lx.of s4)
    have hT4 := L4.tab hT
    clear s4 L4 L1 L2 L3 DA1 DA2 hl0
    revert DA4 hT4
    show DeckAt (upd H3 t (.tup [ni p, V.int (1 + (x2 : Int)), V.int (2 + (x3 : Int))])) _ _ _ → _ → _
    dsimp only
    generalize upd H3 t (.tup [ni p, V.int (1 + (x2 : Int)), V.int (2 + (x3 : Int))]) = H4
    intro DA4 hT4
    rw [one_add, two_add]
    have hm1 : 1 ≤ 1 + x2 ∧ 1 + x2 ≤ 12 := by omega
    have hr1 : 2 ≤ 2 + x3 ∧ 2 + x3 ≤ 10 := by omega
    clear ht hx2 hx3
    revert hm1 hr1
    generalize 1 + x2 = m
    generalize 2 + x3 = rx
    intro hm1 hr1
    clear x2 x3 hp DA3 H3
    -- the numbers
    refine ⟨6, rfl, by decide, by decide, fun D hD => ?_⟩
    have nD := DA4.fresh hD
    refine lc_range (lo := 0) (n := 6) (fun i H' => ∃ (ns : List Nat) (n' : Nat), ns.length = i ∧ (∀ x, x ∈ ns → 1 ≤ x) ∧ n' ≤ n + 3 + 10 * i ∧ DeckAt H' d cl n' ∧ Lx d cl tb H4 H' ∧ H' D = some (.lst (ns.map ni))) ⟨[], n + 3, rfl, fun x hx => by simp at hx, by omega, DA4.upd nD.1 nD.2, Lx.of (same_upd hD), upd_same⟩ ?_ ?_
    · rintro i H' hi ⟨ns, n', hln, hns, hn', DA', L', hD'⟩
      refine ⟨rfl, ?_⟩
      dsimp only [tYes]
      rw [if_pos rfl]
      refine ⟨_, rfl, _, rfl, d, cl, n', p, rfl, DA', by omega, by omega, hp2.1, fun H5 x n5 hx hn5 DA5 L5 => ?_⟩
      have hD5 := L5.keep D _ nD.1 nD.2 (by intro _ z; cases z) hD'
      refine ⟨_, hD5, small_line' (by rw [List.length_map]; omega), ns ++ [x], n5, by rw [List.length_append, hln]; rfl, fun z hz => ?_, by omega, DA5.upd nD.1 nD.2, (L'.trans L5).upd_new hD hD5, by rw [upd_same, List.map_append]; rfl⟩
      rcases List.mem_append.mp hz with hz | hz
      · exact hns z hz
      · simp at hz; omega
    rintro H5 ⟨ns, n5, hln, hns, hn5, DA5, L5, hD5⟩
    have hT5 := L5.tab hT4
    have hz : ns.length ≤ 100 := by omega
    -- the sorters
    refine ⟨rfl, _, rfl, p, rfl, rfl, fun H6 a5 s6 n6 l5 => ⟨rfl, _, rfl, m, rfl, rfl, fun H7 a6 s7 n7 l6 => ⟨small_line (Nat.le_of_ble_eq_true rfl), fun t ht => ⟨t, _, rfl, SqT.of upd_same, rfl, _, _, rfl, _, _, rfl, rfl, ?_⟩⟩⟩⟩
    have s8 := same_upd (o := .tup [V.ref a5, V.ref a6]) ht
    -- the machines
    refine ⟨rfl, _, rfl, p, rfl, hp2.1, by omega, fun H9 a7 s9 n9 m7 => ⟨rfl, _, rfl, _, rfl, p, m, rfl, hp2.1, by omega, hm1.1, hm1.2, ?_, fun H10 a8 st S x10 n10 ex m8 => ⟨_, _, rfl, ?_⟩⟩⟩
    · exact hT5.ext ((s6.trans s7).trans (s8.trans s9))
    have rs : RS c tb d cl D a5 a6 a7 a8 p m n5 ns st S H10 := by
      have e1 := (s6.trans s7).trans (s8.trans s9)
      have e2 : Ex tb H5 H10 := (Ex.of e1).trans x10
      exact ⟨DA5.ex e2, e2.tab hT5, e2.ext _ _ hD5 (fun _ z => nomatch z), l5.keep (((Ex.of (s7.trans (s8.trans s9))).trans x10)).kp, l6.keep (((Ex.of (s8.trans s9)).trans x10)).kp, m7.keep x10.kp, m8⟩
    clear x10 s9 s8 s7 s6 m7 m8 l5 l6 n6 n7 n9 n10 ht hD5 DA5 L5 hT5 hT4 DA4 hD hT DA
    have h10 : p ≤ 10 := by omega
    have okd : (Lf.digs p 0).ok := ⟨hp2.1, hp2.2, by decide, by decide⟩
    have okm : (Lf.modu m).ok := hm1
    have rawL := last_raw hp2.1 h10
    have rawM := ex.raw hp2.1 h10 hm1.2
    -- alike, one by one
    show (_ : L2.Ends → L2.St → Hp → Prop) _ [some (.ref d), some (ni p), some (ni m), some (ni rx), some (.ref D), some (.ref a5), some (.ref a6), some (.ref a7), some (.ref a8), none, none, none, none, none, none] H10
    refine ⟨_, rfl, _, rfl, _, rfl, a5, a7, D, .sor (.leaf (.digs p 0)), .mac (lastM p), ns, rfl, ⟨rs.dig, okd⟩, ⟨rs.la, rawL⟩, rs.some_, hz, fun n hn => ⟨hns n hn, (val_last hp2.1 (hns n hn)).symm, sr_range (g := .leaf (.digs p 0)) okd (hns n hn)⟩, fun H11 s11 => ⟨true, rfl, ?_⟩⟩
    refine iteF ?_
    have rs11 := rs.same s11
    clear rs s11
    refine ⟨_, rfl, rfl, _, rfl, _, rfl, rx, m, rfl, hr1.1, hr1.2, hm1.1, hm1.2, rs11.tab, fun H12 a10 st' S' x12 n12 ex' m10 => ⟨_, rfl, a6, a10, D, .sor (.leaf (.modu m)), .mac (modM rx m st' S'), ns, rfl, ⟨(rs11.ex x12).lef, okm⟩, ⟨m10, ex'.raw hr1.1 hr1.2 hm1.2⟩, (rs11.ex x12).some_, hz, fun n hn => ⟨hns n hn, (val_mod ex' hr1.1 hm1.1).symm, sr_range (g := .leaf (.modu m)) okm (hns n hn)⟩, fun H13 s13 => ⟨true, rfl, ?_⟩⟩⟩
    refine iteF ?_
    have rs13 := (rs11.ex x12).same s13
    clear rs11 x12 n12 ex' m10 s13
    -- products
    have hz2 : (lastM p).S.length * (modM p m st S).S.length ≤ 4000 := by
      show (lastS p).length * S.length ≤ 4000
      have e1 := ex.size
      have e2 : m * m ≤ 144 := Nat.mul_le_mul hm1.2 hm1.2
      rw [lastS_len hp2.1, ex.len]
      exact Nat.le_trans (Nat.mul_le_mul hp2.2 (Nat.le_trans e1 e2)) (by decide)
    have hk2 : ∀ i j, i < (lastM p).S.length → j < (modM p m st S).S.length → (lastM p).B.getD i 0 * (modM p m st S).many + (modM p m st S).B.getD j 0 < 200 := by
      intro i j hi hj
      have hi : i < (lastS p).length := hi
      rw [lastS_len hp2.1] at hi
      have hj : j < S.length := hj
      rw [ex.len] at hj
      show (lastB p).getD i 0 * m + (modB st).getD j 0 < 200
      have e1 := last_le hp2.1 hi
      have e2 := ex.box_le hj
      have e3 : (lastB p).getD i 0 * m ≤ 7 * 12 := Nat.mul_le_mul (by omega) hm1.2
      omega
    have rawP := prod_raw (k := (modM p m st S).many) rawL rawM hz2 hk2
    obtain ⟨d5, r5, e5, _⟩ := id rs13.dig
    obtain ⟨d6, r6, e6, _⟩ := id rs13.lef
    refine ⟨_, rfl, _, rfl, a5, a6, d5, d6, _, _, rfl, rfl, e5, e6, a5, a6, _, _, rfl, rs13.dig, rs13.lef, okd, okm, fun H14 b14 s14 n14 r14 => ⟨⟨b14, rfl⟩, ?_⟩⟩
    have rs14 := rs13.same s14
    obtain ⟨d7, t7, u7, e7, _⟩ := id rs14.la
    obtain ⟨d8, t8, u8, e8, _⟩ := id rs14.le
    refine ⟨_, rfl, _, rfl, a7, a8, d7, d8, _, _, rfl, rfl, e7, e8, a7, a8, lastM p, modM p m st S, rfl, rs14.la, rs14.le, rawL, rawM, hz2, hk2, fun H15 b15 k15 s15 n15 m15 => ⟨⟨b15, rfl⟩, ?_⟩⟩
    have rs15 := rs14.same s15
    refine ⟨_, rfl, b14, b15, D, .sor (.pair (.digs p 0) (.modu m)), .mac ⟨p, prodS (lastM p).S (modM p m st S).S, prodB (modM p m st S).many (lastM p).B (modM p m st S).B, k15⟩, ns, rfl, ⟨r14.keep (Kp.of s15), okd, okm⟩, ⟨m15, rawP⟩, rs15.some_, hz, fun n hn => ⟨hns n hn, (val_prod hp2.1 h10 hm1.1 hm1.2 ex (hns n hn)).symm, sr_range (g := .pair (.digs p 0) (.modu m)) ⟨okd, okm⟩ (hns n hn)⟩, fun H16 s16 => ⟨true, rfl, ?_⟩⟩
    refine iteF ?_
    have rs16 := rs15.same s16
    clear rs13 rs14 rs15 s14 s15 s16 e5 e6 e7 e8 r14 m15
    -- sorters of machines
    have okM := modM_ok ex hp2.1 h10 hm1.1 hm1.2
    have okL := lastM_ok hp2.1 h10
    obtain ⟨d8, t8, u8, e8, _⟩ := id rs16.le
    refine ⟨_, rfl, a8, d8, _, rfl, e8, fM_sorter _ _ _ _, a8, modM p m st S, rfl, rs16.le, fun H17 b17 s17 n17 l17 => ?_⟩
    have rs17 := rs16.same s17
    obtain ⟨d7, t7, u7, e7, _⟩ := id rs17.la
    refine ⟨_, rfl, a7, d7, _, rfl, e7, fM_sorter _ _ _ _, a7, lastM p, rfl, rs17.la, fun H18 b18 s18 n18 l18 => ?_⟩
    have rs18 := rs17.same s18
    have l17 := l17.keep (Kp.of s18)
    obtain ⟨d17, r17, e17, _⟩ := id l17
    obtain ⟨d18, r18, e18, _⟩ := id l18
    refine ⟨b17, b18, d17, d18, _, _, rfl, rfl, e17, e18, b17, b18, .mach (modM p m st S), .mach (lastM p), rfl, l17, l18, okM, okL, fun H19 b19 s19 n19 r19 => ⟨⟨b19, rfl⟩, ?_⟩⟩
    have rs19 := rs18.same s19
    obtain ⟨d5, r5, e5, _⟩ := id rs19.dig
    obtain ⟨d6, r6, e6, _⟩ := id rs19.lef
    refine ⟨_, rfl, _, rfl, a6, a5, d6, d5, _, _, rfl, rfl, e6, e5, a6, a5, _, _, rfl, rs19.lef, rs19.dig, okm, okd, fun H20 b20 s20 n20 r20 => ⟨⟨b20, rfl⟩, ?_⟩⟩
    have rs20 := rs19.same s20
    refine ⟨_, rfl, b19, b20, D, .sor (.pair (.mach (modM p m st S)) (.mach (lastM p))), .sor (.pair (.modu m) (.digs p 0)), ns, rfl, ⟨r19.keep (Kp.of s20), okM, okL⟩, ⟨r20, okm, okd⟩, rs20.some_, hz, fun n hn => ⟨hns n hn, val_cross hp2.1 hm1.1 ex (hns n hn), sr_range (g := .pair (.mach (modM p m st S)) (.mach (lastM p))) ⟨okM, okL⟩ (hns n hn)⟩, fun H21 s21 => ⟨true, rfl, ?_⟩⟩
    refine iteF ?_
    have rs21 := rs20.same s21
    clear rs16 rs17 rs18 rs19 rs20 s17 s18 s19 s20 s21 l17 l18 r19 r20 e5 e6 e7 e8 e17 e18
    -- the boxes
    obtain ⟨d5, r5, e5, _⟩ := id rs21.dig
    obtain ⟨d6, r6, e6, _⟩ := id rs21.lef
    refine ⟨_, rfl, a5, c.CS, d5, _, _, rfl, e5, T.clS, T.nSb, lk1 _ _ _, _, rfl, a6, c.CS, d6, _, _, rfl, e6, T.clS, T.nSb, lk1 _ _ _, ?_⟩
    refine ⟨_, rfl, _, rfl, a5, a6, d5, d6, _, _, rfl, rfl, e5, e6, a5, a6, _, _, rfl, rs21.dig, rs21.lef, okd, okm, fun H22 b22 s22 n22 r22 => ⟨⟨b22, rfl⟩, ?_⟩⟩
    have rs22 := rs21.same s22
    obtain ⟨d22, q22, dr22, x22, y22, e22, _⟩ := id r22
    have bxm : 0 ≤ ((p : Int) - 1) * (m : Int) ∧ ((p : Int) - 1) * (m : Int) ≤ 6 * 12 := ⟨Int.mul_nonneg (by omega) (by omega), Int.mul_le_mul (by omega) (by omega) (by omega) (by omega)⟩
    have bx : ∀ z, z ∈ [(p : Int) - 1, (m : Int), ((p : Int) - 1) * (m : Int)] → 0 ≤ z ∧ z < 1000000 := fun z hz => by
      simp only [List.mem_cons, List.not_mem_nil, or_false] at hz
      rcases hz with rfl | rfl | rfl <;> omega
    have eb : [V.int (Lf.boxes (.digs p 0)), V.int (Lf.boxes (.modu m)), V.int (Lf.boxes (.digs p 0) * Lf.boxes (.modu m))] = [(p : Int) - 1, (m : Int), ((p : Int) - 1) * (m : Int)].map V.int := by
      have e : Lf.boxes (.digs p 0) = (p : Int) - 1 := by
        show own 0 + (p : Int) - 1 = _
        rw [own0]; omega
      rw [e]; rfl
    refine ⟨b22, c.CS, d22, _, _, rfl, e22, T.clS, T.nSb, lk1 _ _ _, small_line (Nat.le_of_ble_eq_true rfl), fun q hq => ⟨q, [(p : Int) - 1, (m : Int), ((p : Int) - 1) * (m : Int)], rfl, SqL.of (by rw [upd_same, ← eb]), bx, by simp, ?_⟩⟩
    refine ⟨_, rfl, _, _, rfl, rfl, _, rfl, _, rfl, _, _, rfl, rfl, _, rfl, _, _, rfl, rfl, .inl ⟨by omega, by omega⟩, small_line (Nat.le_of_ble_eq_true rfl), fun q2 hq2 => ⟨q2, [(p : Int) - 1, (m : Int), ((p : Int) - 1) * (m : Int)], rfl, SqL.of upd_same, bx, by simp, rfl, _, rfl, ?_⟩⟩
    refine ite2 (fun h => absurd h (by simp)) (fun _ => ?_)
    have rs24 := fun o' => (rs22.same (same_upd hq)).same (same_upd (o := o') hq2)
    -- the bound
    refine ⟨_, rfl, d, cl, n5, 16, rfl, (rs24 _).deck, by omega, by decide, by decide, fun H25 x hx DA25 L25 => ⟨_, _, rfl, rfl, ?_⟩⟩
    have rs25 := (rs24 _).lx nD.2 L25 DA25
    have ha : -6 ≤ (x : Int) - 6 ∧ (x : Int) - 6 ≤ 9 := by omega
    clear rs24 rs22 rs21 L25 DA25 hq hq2 eb bx s22 r22 e22 e5 e6 n22
    revert ha
    dsimp only
    generalize (x : Int) - 6 = a
    intro ha
    refine at_name ?_
    show (_ : L2.Ends → L2.St → Hp → Prop) _ [some (.ref d), some (ni p), some (ni m), some (ni rx), some (.ref D), some (.ref a5), some (.ref a6), some (.ref a7), some (.ref a8), some (.int a), none, none, none, none, none] H25
    have okb : (Lf.digs p a).ok := ⟨hp2.1, hp2.2, by omega, by omega⟩
    refine ⟨_, rfl, _, rfl, small_line (Nat.le_of_ble_eq_true rfl), fun t1 ht1 => ⟨_, rfl, small_line (Nat.le_of_ble_eq_true rfl), fun t2 ht2 => ?_⟩⟩
    refine ⟨t1, t2, .dg a p, .md m, rfl, same_upd ht2 _ _ upd_same, upd_same, okb, okm, fun H26 a10 s26 n26 r26 => ?_⟩
    have rs26 := ((rs25.same (same_upd ht1)).same (same_upd ht2)).same s26
    refine ⟨rfl, _, rfl, _, rfl, p, a, rfl, rfl, fun H27 a11 s27 n27 l27 => ⟨small_line (Nat.le_of_ble_eq_true rfl), fun t ht => ⟨t, _, rfl, SqT.of upd_same, rfl, _, _, rfl, _, _, rfl, rfl, ?_⟩⟩⟩
    have s28 := same_upd (o := .tup [V.ref a10, V.ref a11]) ht
    have rs28 := (rs26.same s27).same s28
    have r28 := r26.keep (Kp.of (s27.trans s28))
    have l28 := l27.keep (Kp.of s28)
    clear rs25 rs26 r26 l27 s26 s27 s28 ht1 ht2 n26 n27 ht
    revert rs28 r28 l28
    generalize upd H27 t (.tup [V.ref a10, V.ref a11]) = H28
    intro rs28 r28 l28
    show (_ : L2.Ends → L2.St → Hp → Prop) _ [some (.ref d), some (ni p), some (ni m), some (ni rx), some (.ref D), some (.ref a5), some (.ref a6), some (.ref a7), some (.ref a8), some (.int a), some (.ref a10), some (.ref a11), none, none, none] H28
    have rd10 : RdAt c H28 a10 (.sor (.pair (.digs p a) (.modu m))) := ⟨r28, okb, okm⟩
    have rd11 : RdAt c H28 a11 (.sor (.leaf (.digs p a))) := ⟨l28, okb⟩
    have rd6 : RdAt c H28 a6 (.sor (.leaf (.modu m))) := ⟨rs28.lef, okm⟩
    have bnd : ∀ (g : Sr), g.ok → ∀ z, z ∈ ns.map (Rd.val (.sor g)) → 0 ≤ z ∧ z < 1000000 := fun g ok z hz => by
      obtain ⟨n, hn, rfl⟩ := List.mem_map.mp hz
      exact sr_range ok (hns n hn)
    have len1 : ∀ g : Rd, (ns.map g.val).length ≤ 1000 := fun g => by rw [List.length_map]; omega
    refine ⟨_, rfl, D, rfl, ⟨_, SqL.of rs28.some_⟩, fun D1 hD1 => ?_⟩
    refine lc_reads rs28.some_ hD1 hz rd10 hns (fun _ => rfl) (fun _ => rfl) (fun _ => rfl) fun H29 s29 e29 => ?_
    refine ⟨D1, _, rfl, SqL.of e29, bnd _ ⟨okb, okm⟩, len1 _, ?_⟩
    have rs29 := rs28.same s29
    have rd11 := rd11.keep (Kp.of s29)
    have rd6 := rd6.keep (Kp.of s29)
    have dgr : ∀ n, n ∈ ns → 0 ≤ digv p a n ∧ digv p a n < 200 := fun n hn => lf_range (g := .digs p a) okb (hns n hn)
    refine ⟨_, rfl, D, rfl, ⟨_, SqL.of rs29.some_⟩, fun D2 hD2 => ?_⟩
    refine lc_list (K := K) (a := D) (xs := ns.map ni) (fun i' H' => Same H29 H' ∧ H' D2 = some (.lst (((ns.take i').map (Rd.val (.sor (.pair (.digs p a) (.modu m))))).map V.int))) ⟨same_upd hD2, upd_same⟩ (fun i' H' _ z => SqL.of (z.1 _ _ rs29.some_)) ?_ ?_
    · rintro i' v H' hv ⟨sm, h3⟩
      have hi : i' < ns.length := by
        have := (List.getElem?_eq_some_iff.mp hv).1
        rwa [List.length_map] at this
      rw [List.getElem?_map, List.getElem?_eq_getElem hi] at hv
      obtain rfl : ni ns[i'] = v := Option.some.inj hv
      have hn1 := hns _ (List.getElem_mem hi)
      have hn2 := dgr _ (List.getElem_mem hi)
      refine ⟨rfl, ?_⟩
      dsimp only [tYes]
      rw [if_pos rfl]
      refine ⟨_, rfl, a11, rfl, _, rfl, rd_reads (rd11.keep (Kp.of sm)) hn1 ⟨_, rfl, _, _, rfl, rfl, .inl ⟨?_, ?_⟩, ?_⟩⟩
      · show -(2 ^ 64) < digv p a ns[i']
        omega
      · show digv p a ns[i'] < 2 ^ 64
        omega
      refine ⟨_, rfl, a6, rfl, _, rfl, rd_reads (rd6.keep (Kp.of sm)) hn1 ⟨_, _, rfl, rfl, _, h3, small_line' ?_, same_upd' sm hD2, ?_⟩⟩
      · rw [List.length_map, List.length_map, List.length_take]; omega
      · rw [upd_same, List.take_succ_eq_append_getElem hi, List.map_append, List.map_append]; rfl
    rintro H30 ⟨s30, e30⟩
    rw [List.length_map, List.take_length] at e30
    refine ⟨D2, _, rfl, SqL.of e30, bnd _ ⟨okb, okm⟩, len1 _, rfl, _, rfl, ite2 (fun h => absurd h (by simp)) (fun _ => ?_)⟩
    have rs30 := rs29.same s30
    have rd11 := rd11.keep (Kp.of s30)
    clear rd6 rs28 rs29 s29 s30 e29 e30 r28 l28 rd10 hD1 hD2
    -- one alone
    have ok1 : (Lf.modu 1).ok := ⟨by decide, by decide⟩
    refine ⟨small_line (Nat.le_of_ble_eq_true rfl), fun t3 ht3 => ⟨_, rfl, _, rfl, small_line (Nat.le_of_ble_eq_true rfl), fun t4 ht4 => ?_⟩⟩
    refine ⟨t3, t4, .nv, .dg a p, rfl, same_upd ht4 _ _ upd_same, upd_same, ok1, okb, fun H31 a12 s31 n31 r31 => ?_⟩
    refine at_name ?_
    show (_ : L2.Ends → L2.St → Hp → Prop) _ [some (.ref d), some (ni p), some (ni m), some (ni rx), some (.ref D), some (.ref a5), some (.ref a6), some (.ref a7), some (.ref a8), some (.int a), some (.ref a10), some (.ref a11), some (.ref a12), none, none] H31
    have r31 : SrAt c H31 a12 (.pair (.modu 1) (.digs p a)) := r31
    have rs31 := ((rs30.same (same_upd ht3)).same (same_upd ht4)).same s31
    have rd11 := ((rd11.keep (Kp.of (same_upd ht3))).keep (Kp.of (same_upd ht4))).keep (Kp.of s31)
    clear rs30 s31 n31 ht3 ht4
    have rd12 : RdAt c H31 a12 (.sor (.pair (.modu 1) (.digs p a))) := ⟨r31, ok1, okb⟩
    obtain ⟨d12, q12, dr12, x12, y12, e12, _⟩ := id r31
    obtain ⟨d11, q11, e11, _⟩ := id rd11.1
    have ebx : Lf.boxes (.modu 1) * Lf.boxes (.digs p a) = Lf.boxes (.digs p a) := by
      show (1 : Int) * _ = _
      rw [Int.one_mul]
    have evl : ns.map (Rd.val (.sor (.pair (.modu 1) (.digs p a)))) = ns.map (Rd.val (.sor (.leaf (.digs p a)))) := List.map_congr_left fun n _ => val_lone
    have bb := boxes_small okb
    have bnd2 : ∀ z, z ∈ Lf.boxes (.digs p a) :: ns.map (Rd.val (.sor (.leaf (.digs p a)))) → 0 ≤ z ∧ z < 1000000 := fun z hz => by
      rcases List.mem_cons.mp hz with rfl | hz
      · omega
      · exact bnd (.leaf (.digs p a)) okb z hz
    have len2 : (Lf.boxes (.digs p a) :: ns.map (Rd.val (.sor (.leaf (.digs p a))))).length ≤ 1000 := by rw [List.length_cons, List.length_map]; omega
    have lsz : ∀ (us : List V), us.length = ns.length → [V.int (Lf.boxes (.digs p a))].length + us.length ≤ sizeLine := fun us h => small_line (by rw [h]; show 1 + _ ≤ _; omega)
    refine ⟨_, rfl, a12, c.CS, d12, _, _, rfl, e12, T.clS, T.nSb, lk1 _ _ _, small_line (Nat.le_of_ble_eq_true rfl), fun q1 hq1 => ?_⟩
    rw [ebx]
    have s32 := same_upd (o := .lst [V.int (Lf.boxes (.digs p a))]) hq1
    have rs32 := rs31.same s32
    refine ⟨_, rfl, D, rfl, ⟨_, SqL.of rs32.some_⟩, fun D3 hD3 => ?_⟩
    refine lc_reads rs32.some_ hD3 hz (rd12.keep (Kp.of s32)) hns (fun _ => rfl) (fun _ => rfl) (fun _ => rfl) fun H33 s33 e33 => ?_
    rw [evl] at e33
    refine ⟨q1, D3, _, _, rfl, rfl, s33 _ _ upd_same, e33, lsz _ (by rw [List.length_map, List.length_map]), fun q3 hq3 => ?_⟩
    refine ⟨q3, _ :: ns.map (Rd.val (.sor (.leaf (.digs p a)))), rfl, SqL.of upd_same, bnd2, len2, ?_⟩
    have s34 := (s32.trans s33).trans (same_upd (o := .lst ([V.int (Lf.boxes (.digs p a))] ++ (ns.map (Rd.val (.sor (.leaf (.digs p a))))).map V.int)) hq3)
    have rs34 := rs31.same s34
    refine ⟨_, rfl, a11, c.CS, d11, _, _, rfl, s34 _ _ e11, T.clS, T.nSb, lk1 _ _ _, small_line (Nat.le_of_ble_eq_true rfl), fun q4 hq4 => ?_⟩
    have s35 := same_upd (o := .lst [V.int (Lf.boxes (.digs p a))]) hq4
    have rs35 := rs34.same s35
    refine ⟨_, rfl, D, rfl, ⟨_, SqL.of rs35.some_⟩, fun D5 hD5 => ?_⟩
    refine lc_reads rs35.some_ hD5 hz ((rd11.keep (Kp.of s34)).keep (Kp.of s35)) hns (fun _ => rfl) (fun _ => rfl) (fun _ => rfl) fun H36 s36 e36 => ?_
    refine ⟨q4, D5, _, _, rfl, rfl, s36 _ _ upd_same, e36, lsz _ (by rw [List.length_map, List.length_map]), fun q6 hq6 => ?_⟩
    refine ⟨q6, _ :: ns.map (Rd.val (.sor (.leaf (.digs p a)))), rfl, SqL.of upd_same, bnd2, len2, rfl, _, rfl, ite2 (fun h => absurd h (by simp)) (fun _ => ?_)⟩
    have rs36 := (rs35.same s36).same (same_upd (o := .lst ([V.int (Lf.boxes (.digs p a))] ++ (ns.map (Rd.val (.sor (.leaf (.digs p a))))).map V.int)) hq6)
    -- the bound's own law
    refine ⟨_, rfl, _, rfl, _, rfl, p, a, D, ns, rfl, hp2.1, hp2.2, by omega, by omega, rs36.some_, hz, hns, fun H37 s37 => ?_⟩
    have rs37 := rs36.same s37
    exact k H37 (n5 + 1) (by omega) rs37.deck rs37.tab
end
end Wb

set_option Elab.async false
set_option linter.all false
set_option maxRecDepth 100000
set_option maxHeartbeats 4000000
namespace Wb
open PySem PySem.Spec PyProof.Rows L2
/-! ### the end, for a law whose promise is told of what is under way; one table of code objects -/
section
variable {P : Program} {w : World} {K : PySem.W.Frag} {mg mb : Str → Option Value} {s₁ : Shared} {a tb cm : Addr} {vs : List Value} {ns : List Int}
/-- what is tracked at the entry: the table, and the script where it is no part of what the top wrote -/
def atEntry (K : PySem.W.Frag) (a tb : Addr) (vs : List Value) (ns : List Int) : Hp := fun b =>
  if b = tb then some (.tbl #[]) else if b = a ∧ K.lookup a = none then some (.frz { cls := .type "list", data := .seq vs.toArray } (.lst (ns.map V.int))) else none
theorem entry_tb : atEntry K a tb vs ns tb = some (.tbl #[]) := if_pos rfl
theorem entry_else {b : Addr} (h1 : b ≠ tb) (h2 : ¬ (b = a ∧ K.lookup a = none)) : atEntry K a tb vs ns b = none := by
  unfold atEntry
  rw [if_neg h1, if_neg h2]
theorem entry_cases {b : Addr} {u : HO} (h : atEntry K a tb vs ns b = some u) : (b = tb ∧ u = .tbl #[]) ∨ (b ≠ tb ∧ b = a ∧ K.lookup a = none ∧ u = .frz { cls := .type "list", data := .seq vs.toArray } (.lst (ns.map V.int))) := by
  unfold atEntry at h
  by_cases h1 : b = tb
  · rw [if_pos h1] at h
    exact .inl ⟨h1, (Option.some.inj h).symm⟩
  · rw [if_neg h1] at h
    by_cases h2 : b = a ∧ K.lookup a = none
    · rw [if_pos h2] at h
      exact .inr ⟨h1, h2.1, h2.2, (Option.some.inj h).symm⟩
    · rw [if_neg h2] at h; cases h
theorem law_callS {k : Nat} {fa : Addr} {sp : Sp} (KX : K.In s₁.heap) (hns : s₁.heap.Ns mainGlobals mg) (hb : s₁.heap.Ns builtinsNs mb) (hbb : ∀ x : Str, x ≠ "__name__" → mb x = bootBuiltins x) (hlim : s₁.heap.NoLimit) (hg : s₁.gens = #[])
    (hT : s₁.heap.get? tb = some { cls := .none, data := .fields #[] }) (nT : K.lookup tb = none) (C : PySem.W.CodeHd s₁.heap cm tb)
    (hbm : ∃ (bm : Addr) (ob : Obj), mg "__builtins__" = some (.ref bm) ∧ bm ≠ builtinsNs ∧ s₁.heap.get? bm = some ob ∧ ob.cls = .type "module" ∧ ob.dict = some builtinsNs ∧ ob.data = .plain)
    (ha : s₁.heap.get? a = some { cls := .type "list", data := .seq vs.toArray }) (hi : IntsAre vs ns) (hl : ns.length ≤ sizeLine) (hr : Room k callerA)
    (F : ∀ base : Heap, K.In base → base.Ns mainGlobals mg → LamX.TabB base mg cm tb → FnS P w K mg base k fa GA sp)
    (hsp : ∀ H : Hp, H tb = some (.tbl #[]) → SqL K H a (ns.map V.int) → sp [.ref a] H (fun v _ => v = .bl true) E0) :
    codeAny (model P w) callerA (.call (.ref fa) ⟨[.ref a], []⟩) (fun r s' => r = .ok (.ret (.bool true)) ∧ OldK s₁.heap s'.heap ∧ s'.os = s₁.os ∧ AllBare s'.gens) s₁ := by
  have rv := vals_ints hi
  have lenV := hi.length
  -- an object that is neither the table nor a list is not tracked
  have off : ∀ {b : Addr} {o : Obj}, s₁.heap.get? b = some o → o.data ≠ .fields #[] → (∀ us n, o.data ≠ .seq us n) → atEntry K a tb vs ns b = none := fun {b o} e h1 h2 => by
    refine entry_else (fun z => ?_) fun z => ?_
    · rw [z, hT] at e
      exact h1 (congrArg Obj.data (Option.some.inj e)).symm
    · rw [z.1, ha] at e
      exact h2 _ _ (congrArg Obj.data (Option.some.inj e)).symm
  have low : ∀ {b : Addr} {o : Obj}, s₁.heap.get? b = some o → o.data ≠ .fields #[] → (∀ us n, o.data ≠ .seq us n) → (hidT s₁.heap (atEntry K a tb vs ns)).get? b = some o := fun e h1 h2 => hidT_get e (off e h1 h2)
  have dicts : ∀ {b : Addr} {m : Str → Option Value}, s₁.heap.Ns b m → (hidT s₁.heap (atEntry K a tb vs ns)).Ns b m := fun {b m} ⟨o, es, ep, e, d, r⟩ =>
    ⟨o, es, ep, low e (fun z => by rw [d] at z; cases z) (fun us n z => by rw [d] at z; cases z), d, r⟩
  have kin : K.In (hidT s₁.heap (atEntry K a tb vs ns)) := fun b o e => hidT_get (KX b o e) (entry_else (fun z => by rw [z, nT] at e; cases e) fun z => by
    rw [z.1, z.2] at e; cases e)
  have md : L2.Mod K mg (hidT s₁.heap (atEntry K a tb vs ns)) := ⟨kin, dicts hns, ⟨mb, dicts hb, hbb⟩, let ⟨mc, h1, h2⟩ := hlim; ⟨mc, dicts h1, h2⟩⟩
  have notG : ∀ {b : Addr} {o : Obj}, s₁.heap.get? b = some o → (∀ es ep, o.data ≠ .dict es ep) → b ≠ mainGlobals := fun {b o} e h z => by
    obtain ⟨o', es, ep, e', d, _⟩ := hns
    rw [z, e'] at e
    cases e
    exact h _ _ d
  have tab : LamX.TabB (hidT s₁.heap (atEntry K a tb vs ns)) mg cm tb := by
    refine ⟨?_, ?_, fun z => notG hT (fun es ep q => by cases q) z.symm⟩
    · obtain ⟨o, us, file, tf, flags, tg, inF, text, tt, e1, r1, r2, r3, r⟩ := C
      refine ⟨o, us, file, tf, flags, tg, inF, text, tt, low e1 (fun z => ?_) (fun us' n z => ?_), r1, r2, r3, r⟩
      · rw [r2] at z
        cases z
        simp at r3
      · rw [r2] at z; cases z
    · obtain ⟨bm, ob, b1, b2, b3, b4, b5, b6⟩ := hbm
      refine ⟨bm, ob, b1, b2, notG b3 (fun es ep q => by rw [b6] at q; cases q), fun z => ?_, low b3 (fun z => by rw [b6] at z; cases z) (fun us n z => by rw [b6] at z; cases z), b4, b5, b6⟩
      rw [z, hT] at b3
      cases b3
      cases b6
  have hok : HOk P w (atEntry K a tb vs ns) s₁.heap := fun b u e => by
    rcases entry_cases e with ⟨rfl, rfl⟩ | ⟨_, rfl, _, rfl⟩
    · exact hT
    · exact ⟨ha, by rw [List.length_map]; exact hl, vs, _, rv, ha⟩
  have hS : SqL K (atEntry K a tb vs ns) a (ns.map V.int) := by
    cases hk : K.lookup a with
    | some o =>
      have e := KX a o hk
      rw [ha] at e
      cases e
      exact .inr ⟨_, vs.toArray, _, hk, rfl, rfl, rfl, by rw [List.size_toArray, lenV]; exact hl, by simpa using rv⟩
    | none =>
      have na : a ≠ tb := fun z => by
        rw [z, hT] at ha
        cases ha
      refine .inl (.inr ⟨_, (?_ : atEntry K a tb vs ns a = some (.frz { cls := .type "list", data := .seq vs.toArray } (.lst (ns.map V.int))))⟩)
      unfold atEntry
      rw [if_neg na, if_pos ⟨rfl, hk⟩]
  have e0 : Env0 P w K mg (hidT s₁.heap (atEntry K a tb vs ns)) callerA [] s₁ (atEntry K a tb vs ns) := ⟨rfl, md, fun b o e => of_hidT e, Nat.le_of_eq (hidT_size _ _), trivial, (fun b z => absurd (show b ∈ ([] : List Addr) from z) (by simp)), hok, .of_eq hg⟩
  refine codeAny_mono (F _ kin (dicts hns) tab callerA [] s₁ _ [.ref a] [.ref a] _ hr e0 (.cons rfl .nil) rfl (hsp _ entry_tb hS)) fun r s' h => ?_
  match r, h with
  | .ok (.ret u), h =>
    obtain ⟨v, H', os, bare, un, hok', r', q⟩ := h
    subst q
    obtain rfl : u = Value.bool true := r'
    have kept : ∀ b o, b ≠ tb → s₁.heap.get? b = some o → s'.heap.get? b = some o := fun b o nb e => by
      cases q : atEntry K a tb vs ns b with
      | none => exact un.keep b o e q (fun z => absurd (show b ∈ ([] : List Addr) from z) (by simp)) (fun z => absurd (show b ∈ ([] : List Addr) from z) (by simp))
      | some u =>
        rcases entry_cases q with ⟨z, _⟩ | ⟨_, rfl, _, rfl⟩
        · exact absurd z nb
        · have z2 := un.frzs _ _ _ q
          obtain ⟨e2, _⟩ := hok' _ _ z2
          rw [ha] at e
          rw [← Option.some.inj e]
          exact e2
    obtain ⟨more, hm⟩ := un.tbls tb #[] entry_tb
    have tbl' : s'.heap.get? tb = some { cls := .none, data := .fields (#[] ++ more) } := hok' _ _ hm
    refine ⟨rfl, ⟨fun b o e => ?_, fun b o e => ?_⟩, os, bare⟩
    · by_cases z : b = tb
      · subst z
        rw [hT] at e
        cases e
        exact .inr (.inl ⟨(C.tab hT).isCodeTable, rfl, #[], more, rfl, tbl'⟩)
      · exact .inl (kept b o z e)
    · by_cases z : b = tb
      · subst z
        exact ⟨_, tbl'⟩
      · exact ⟨o, kept b o z e⟩
  | .ok .next, h => exact False.elim h
  | .ok .brk, h => exact False.elim h
  | .ok .cont, h => exact False.elim h
  | .error e, h => exact False.elim h
end
end Wb

set_option Elab.async false
set_option linter.all false
set_option maxRecDepth 100000
set_option maxHeartbeats 4000000
namespace Wb
open PySem PySem.Spec PyProof.Rows L2
section
variable {P : Program} {w : World} {K : PySem.W.Frag} {mg : Str → Option Value} {base : Heap} {f tb fde fri : Addr}
/-! ### the law -/
def spLaw (K : PySem.W.Frag) (tb : Addr) : Sp := fun vs H Q _ => ∃ (a : Addr) (ns : List Int), vs = [.ref a] ∧ SqL K H a (ns.map V.int) ∧ ns.length ≤ 63 ∧ NdefX.TabN H tb nmOn ∧ ∀ H', Q (.bl true) H'
abbrev nLaw : List Str := ["_law_script", "_law_deck_here", "_law_go"]
theorem scLaw : FnScope nLaw ["_law_script"] (defScope sLaw) := ⟨rfl, rfl, rfl, by decide +kernel, rfl, by decide +kernel, by decide +kernel⟩
theorem bdLaw : BindsSt "law" "law" sLaw ["_law_script"] := fun _ _ _ _ _ _ us hl => match us, hl with | [_], _ => rfl
theorem ok_Law (B : TB mg) (De : Df K "_law_deck" "_law_deck" sDeck fde) (me : mg "_law_deck" = some (.ref fde)) (Dr : Df K "_law_right" "_law_right" sRight fri) (mr : mg "_law_right" = some (.ref fri)) (GR : FnS P w K mg base 7 fri GA (spRight tb))
    (D : Df K "law" "law" sLaw f) : FnS P w K mg base 8 f GA (spLaw K tb) := by
  refine D.okS scLaw bdLaw (fun vs H Q E h => ?_) (fun cdv A outer s H vs Q hr e0 ga h => ?_)
  · obtain ⟨_, _, rfl, _⟩ := h
    rfl
  · obtain ⟨a, ns, rfl, hS, hlen, hT, k⟩ := h
    have GD : FnR P w K mg base CX0 1 fde (spDeck K) := ok_Deck B De
    refine ⟨_, pss_cons (ps_set (i := 1) scLaw.nd rfl (.inl rfl) (pe_callR GD (hr.mono (by decide)) (by rfl) me De.kp (pa_cons (pv 0) pa_nil)))
      (pss_cons (ps_for PassesOwn.never rfl (pi_range1 (by rfl) B.range (pa_cons pe_int pa_nil)) (pg_name (i := 2) scLaw.nd rfl (.inl rfl))
        (pss_one (ps_if (pt_not (pt_val (pe_callG GR ga hr (by rfl) mr Dr.kp (pa_cons (pv 1) pa_nil)))) (pss_one ps_never) pss_nil)))
      (pss_one (ps_ret pe_bl))), ?_⟩
    refine ⟨_, rfl, a, ns, rfl, hS, hlen, fun H1 d cl s1 DA => ⟨5, rfl, by decide, by decide, ?_⟩⟩
    refine for_range (lo := 0) (n := 5) (fun i sg H' => ∃ (n' : Nat) (o : Option V), n' ≤ 100 * i ∧ DeckAt H' d cl n' ∧ NdefX.TabN H' tb nmOn ∧ sg = [some (.ref a), some (.ref d), o]) ⟨0, none, by omega, DA, hT.ext s1, rfl⟩ ?_ ?_
    · rintro i sg H' hi ⟨n', o, hn, DA', hT', rfl⟩
      refine ⟨_, rfl, d, cl, n', rfl, DA', by omega, hT', fun H2 n2 hn2 DA2 hT2 => ⟨true, rfl, ?_⟩⟩
      exact iteF ⟨n2, _, by omega, DA2, hT2, rfl⟩
    · rintro sg H' ⟨n', o, hn, DA', hT', rfl⟩
      exact k H'
end
end Wb

set_option Elab.async false
set_option linter.all false
set_option maxRecDepth 100000
set_option maxHeartbeats 4000000
namespace Wb
open PySem PySem.Spec PyProof.Rows L2
/-! ### what the top has written, each a fact that k_is finds -/
theorem all_mk {P : Program} {w : World} {K : PySem.W.Frag} {h : Heap} {mg : Str → Option Value} {fa tb : Addr} (X : K.In h) (G : h.Ns mainGlobals mg) (hfa : mg "law" = some (.ref fa)) (hT : h.get? tb = some { cls := .none, data := .fields #[] })
    {CR CL CP CS CM fRI fRC fLI fLC fPI fPC fSI fSC fSmul fMI fMC fMmul fMsort pSmod fSmod pSdig fSdig kD pMlast fMlast pMmod fMmod cm fLd fB1 fBar fRch fExp fPst fDeck fDraw fPick fPow fNum fAlike fBound fRight fLaw : Addr}
    {oc_RI kV_RI dc_RI pm_RI ct_RI cd_RI oc_RC kV_RC dc_RC pm_RC ct_RC cd_RC oc_LI kV_LI dc_LI pm_LI ct_LI cd_LI oc_LC kV_LC dc_LC pm_LC ct_LC cd_LC oc_PI kV_PI dc_PI pm_PI ct_PI cd_PI oc_PC kV_PC dc_PC pm_PC ct_PC cd_PC oc_SI kV_SI dc_SI pm_SI ct_SI cd_SI oc_SC kV_SC dc_SC pm_SC ct_SC cd_SC oc_Smul kV_Smul dc_Smul pm_Smul ct_Smul cd_Smul oc_MI kV_MI dc_MI pm_MI ct_MI cd_MI oc_MC kV_MC dc_MC pm_MC ct_MC cd_MC oc_Mmul kV_Mmul dc_Mmul pm_Mmul ct_Mmul cd_Mmul oc_Msort kV_Msort dc_Msort pm_Msort ct_Msort cd_Msort oc_Smod kV_Smod dc_Smod pm_Smod ct_Smod cd_Smod oc_Sdig dc_Sdig pm_Sdig ct_Sdig cd_Sdig oc_Mlast kV_Mlast dc_Mlast pm_Mlast ct_Mlast cd_Mlast oc_Mmod kV_Mmod dc_Mmod pm_Mmod ct_Mmod oc_Ld kV_Ld dc_Ld pm_Ld ct_Ld cd_Ld oc_B1 kV_B1 dc_B1 pm_B1 ct_B1 cd_B1 oc_Bar kV_Bar dc_Bar pm_Bar ct_Bar cd_Bar oc_Rch kV_Rch dc_Rch pm_Rch ct_Rch cd_Rch oc_Exp kV_Exp dc_Exp pm_Exp ct_Exp cd_Exp oc_Pst kV_Pst dc_Pst pm_Pst ct_Pst cd_Pst oc_Deck kV_Deck dc_Deck pm_Deck ct_Deck cd_Deck oc_Draw kV_Draw dc_Draw pm_Draw ct_Draw cd_Draw oc_Pick kV_Pick dc_Pick pm_Pick ct_Pick cd_Pick oc_Pow kV_Pow dc_Pow pm_Pow ct_Pow cd_Pow oc_Num kV_Num dc_Num pm_Num ct_Num cd_Num oc_Alike kV_Alike dc_Alike pm_Alike ct_Alike cd_Alike oc_Bound kV_Bound dc_Bound pm_Bound ct_Bound cd_Bound oc_Right kV_Right dc_Right pm_Right ct_Right cd_Right oc_Law kV_Law dc_Law pm_Law ct_Law cd_Law : Value}
    {od_RI an_RI od_RC an_RC od_LI an_LI od_LC an_LC od_PI an_PI od_PC an_PC od_SI an_SI od_SC an_SC od_Smul an_Smul od_MI an_MI od_MC an_MC od_Mmul an_Mmul od_Msort an_Msort od_Smod an_Smod od_Sdig an_Sdig od_Mlast an_Mlast od_Mmod an_Mmod od_Ld an_Ld od_B1 an_B1 od_Bar an_Bar od_Rch an_Rch od_Exp an_Exp od_Pst an_Pst od_Deck an_Deck od_Draw an_Draw od_Pick an_Pick od_Pow an_Pow od_Num an_Num od_Alike an_Alike od_Bound an_Bound od_Right an_Right od_Law an_Law : Option Addr}
    {sl_RI sl_RC sl_LI sl_LC sl_PI sl_PC sl_SI sl_SC sl_Smul sl_MI sl_MC sl_Mmul sl_Msort sl_Smod sl_Sdig sl_Mlast sl_Mmod sl_Ld sl_B1 sl_Bar sl_Rch sl_Exp sl_Pst sl_Deck sl_Draw sl_Pick sl_Pow sl_Num sl_Alike sl_Bound sl_Right sl_Law : Array (Option Value)}
    {rest_Smod rest_Sdig rest_Mlast rest_Mmod : List Value} {tk_Sdig tk_MO tk_DI : Tok}
    (gR : PySem.W.nsIn K mainGlobals "Remainder" = some (some (.ref CR)))
    (gL : PySem.W.nsIn K mainGlobals "LastDigit" = some (some (.ref CL)))
    (gP : PySem.W.nsIn K mainGlobals "Pairing" = some (some (.ref CP)))
    (gS : PySem.W.nsIn K mainGlobals "Sorter" = some (some (.ref CS)))
    (gM : PySem.W.nsIn K mainGlobals "Machine" = some (some (.ref CM)))
    (pgR : PySem.W.plainGet K CR Str.empty = true)
    (hdR : PySem.W.hasDictIn K CR = true)
    (poR : PySem.W.plainOver K CR = true)
    (saR : PySem.W.findIn K (.ref CR) "__setattr__" = some (some (.builtin "object.__setattr__")))
    (mkR : PySem.W.makesIn K CR = true)
    (kcR : PySem.W.keepIn K (.ref CR) = true)
    (pgL : PySem.W.plainGet K CL Str.empty = true)
    (hdL : PySem.W.hasDictIn K CL = true)
    (poL : PySem.W.plainOver K CL = true)
    (saL : PySem.W.findIn K (.ref CL) "__setattr__" = some (some (.builtin "object.__setattr__")))
    (mkL : PySem.W.makesIn K CL = true)
    (kcL : PySem.W.keepIn K (.ref CL) = true)
    (pgP : PySem.W.plainGet K CP Str.empty = true)
    (hdP : PySem.W.hasDictIn K CP = true)
    (poP : PySem.W.plainOver K CP = true)
    (saP : PySem.W.findIn K (.ref CP) "__setattr__" = some (some (.builtin "object.__setattr__")))
    (mkP : PySem.W.makesIn K CP = true)
    (kcP : PySem.W.keepIn K (.ref CP) = true)
    (pgS : PySem.W.plainGet K CS Str.empty = true)
    (hdS : PySem.W.hasDictIn K CS = true)
    (poS : PySem.W.plainOver K CS = true)
    (saS : PySem.W.findIn K (.ref CS) "__setattr__" = some (some (.builtin "object.__setattr__")))
    (mkS : PySem.W.makesIn K CS = true)
    (kcS : PySem.W.keepIn K (.ref CS) = true)
    (pgM : PySem.W.plainGet K CM Str.empty = true)
    (hdM : PySem.W.hasDictIn K CM = true)
    (poM : PySem.W.plainOver K CM = true)
    (saM : PySem.W.findIn K (.ref CM) "__setattr__" = some (some (.builtin "object.__setattr__")))
    (mkM : PySem.W.makesIn K CM = true)
    (kcM : PySem.W.keepIn K (.ref CM) = true)
    (nR_modulus : PySem.W.findIn K (.ref CR) "modulus" = some none)
    (nL_prime : PySem.W.findIn K (.ref CL) "prime" = some none)
    (nL_after : PySem.W.findIn K (.ref CL) "after" = some none)
    (nP_first_sorter : PySem.W.findIn K (.ref CP) "first_sorter" = some none)
    (nP_second_sorter : PySem.W.findIn K (.ref CP) "second_sorter" = some none)
    (nS_boxes : PySem.W.findIn K (.ref CS) "boxes" = some none)
    (nS_rule : PySem.W.findIn K (.ref CS) "rule" = some none)
    (nM_base : PySem.W.findIn K (.ref CM) "base" = some none)
    (nM_steps : PySem.W.findIn K (.ref CM) "steps" = some none)
    (nM_boxes : PySem.W.findIn K (.ref CM) "boxes" = some none)
    (nM_many : PySem.W.findIn K (.ref CM) "many" = some none)
    (z_len : PySem.W.nsIn K mainGlobals "len" = some none)
    (z_sorted : PySem.W.nsIn K mainGlobals "sorted" = some none)
    (z_range : PySem.W.nsIn K mainGlobals "range" = some none)
    (z_tuple : PySem.W.nsIn K mainGlobals "tuple" = some none)
    (z_zip : PySem.W.nsIn K mainGlobals "zip" = some none)
    (z_list : PySem.W.nsIn K mainGlobals "list" = some none)
    (z_int : PySem.W.nsIn K mainGlobals "int" = some none)
    (z_repr : PySem.W.nsIn K mainGlobals "repr" = some none)
    (z_max : PySem.W.nsIn K mainGlobals "max" = some none)
    (a_RI : PySem.W.findIn K (.ref CR) "__init__" = some (some (.ref fRI)))
    (i_RI : PySem.W.isFn K (.ref fRI) = true)
    (l_RI : K.lookup fRI = some ⟨oc_RI, od_RI, .func (PySem.W.fnOf "__init__" "Remainder.__init__" (defArgs sRI) (defBody sRI) (defScope sRI) .none kV_RI dc_RI pm_RI an_RI cd_RI ct_RI), sl_RI⟩)
    (c_RI : PySem.W.codeIn K cd_RI "Remainder.__init__" = true)
    (k_RI : PySem.W.keepIn K (.ref fRI) = true)
    (a_RC : PySem.W.findIn K (.ref CR) "__call__" = some (some (.ref fRC)))
    (i_RC : PySem.W.isFn K (.ref fRC) = true)
    (l_RC : K.lookup fRC = some ⟨oc_RC, od_RC, .func (PySem.W.fnOf "__call__" "Remainder.__call__" (defArgs sRC) (defBody sRC) (defScope sRC) .none kV_RC dc_RC pm_RC an_RC cd_RC ct_RC), sl_RC⟩)
    (c_RC : PySem.W.codeIn K cd_RC "Remainder.__call__" = true)
    (k_RC : PySem.W.keepIn K (.ref fRC) = true)
    (fi_RC : PySem.W.fnIn K fRC = true)
    (a_LI : PySem.W.findIn K (.ref CL) "__init__" = some (some (.ref fLI)))
    (i_LI : PySem.W.isFn K (.ref fLI) = true)
    (l_LI : K.lookup fLI = some ⟨oc_LI, od_LI, .func (PySem.W.fnOf "__init__" "LastDigit.__init__" (defArgs sLI) (defBody sLI) (defScope sLI) .none kV_LI dc_LI pm_LI an_LI cd_LI ct_LI), sl_LI⟩)
    (c_LI : PySem.W.codeIn K cd_LI "LastDigit.__init__" = true)
    (k_LI : PySem.W.keepIn K (.ref fLI) = true)
    (a_LC : PySem.W.findIn K (.ref CL) "__call__" = some (some (.ref fLC)))
    (i_LC : PySem.W.isFn K (.ref fLC) = true)
    (l_LC : K.lookup fLC = some ⟨oc_LC, od_LC, .func (PySem.W.fnOf "__call__" "LastDigit.__call__" (defArgs sLC) (defBody sLC) (defScope sLC) .none kV_LC dc_LC pm_LC an_LC cd_LC ct_LC), sl_LC⟩)
    (c_LC : PySem.W.codeIn K cd_LC "LastDigit.__call__" = true)
    (k_LC : PySem.W.keepIn K (.ref fLC) = true)
    (fi_LC : PySem.W.fnIn K fLC = true)
    (a_PI : PySem.W.findIn K (.ref CP) "__init__" = some (some (.ref fPI)))
    (i_PI : PySem.W.isFn K (.ref fPI) = true)
    (l_PI : K.lookup fPI = some ⟨oc_PI, od_PI, .func (PySem.W.fnOf "__init__" "Pairing.__init__" (defArgs sPI) (defBody sPI) (defScope sPI) .none kV_PI dc_PI pm_PI an_PI cd_PI ct_PI), sl_PI⟩)
    (c_PI : PySem.W.codeIn K cd_PI "Pairing.__init__" = true)
    (k_PI : PySem.W.keepIn K (.ref fPI) = true)
    (a_PC : PySem.W.findIn K (.ref CP) "__call__" = some (some (.ref fPC)))
    (i_PC : PySem.W.isFn K (.ref fPC) = true)
    (l_PC : K.lookup fPC = some ⟨oc_PC, od_PC, .func (PySem.W.fnOf "__call__" "Pairing.__call__" (defArgs sPC) (defBody sPC) (defScope sPC) .none kV_PC dc_PC pm_PC an_PC cd_PC ct_PC), sl_PC⟩)
    (c_PC : PySem.W.codeIn K cd_PC "Pairing.__call__" = true)
    (k_PC : PySem.W.keepIn K (.ref fPC) = true)
    (fi_PC : PySem.W.fnIn K fPC = true)
    (a_SI : PySem.W.findIn K (.ref CS) "__init__" = some (some (.ref fSI)))
    (i_SI : PySem.W.isFn K (.ref fSI) = true)
    (l_SI : K.lookup fSI = some ⟨oc_SI, od_SI, .func (PySem.W.fnOf "__init__" "Sorter.__init__" (defArgs sSI) (defBody sSI) (defScope sSI) .none kV_SI dc_SI pm_SI an_SI cd_SI ct_SI), sl_SI⟩)
    (c_SI : PySem.W.codeIn K cd_SI "Sorter.__init__" = true)
    (k_SI : PySem.W.keepIn K (.ref fSI) = true)
    (a_SC : PySem.W.findIn K (.ref CS) "__call__" = some (some (.ref fSC)))
    (i_SC : PySem.W.isFn K (.ref fSC) = true)
    (l_SC : K.lookup fSC = some ⟨oc_SC, od_SC, .func (PySem.W.fnOf "__call__" "Sorter.__call__" (defArgs sSC) (defBody sSC) (defScope sSC) .none kV_SC dc_SC pm_SC an_SC cd_SC ct_SC), sl_SC⟩)
    (c_SC : PySem.W.codeIn K cd_SC "Sorter.__call__" = true)
    (k_SC : PySem.W.keepIn K (.ref fSC) = true)
    (fi_SC : PySem.W.fnIn K fSC = true)
    (a_Smul : PySem.W.findIn K (.ref CS) (PySem.dunder "mul") = some (some (.ref fSmul)))
    (i_Smul : PySem.W.isFn K (.ref fSmul) = true)
    (l_Smul : K.lookup fSmul = some ⟨oc_Smul, od_Smul, .func (PySem.W.fnOf "__mul__" "Sorter.__mul__" (defArgs sSmul) (defBody sSmul) (defScope sSmul) .none kV_Smul dc_Smul pm_Smul an_Smul cd_Smul ct_Smul), sl_Smul⟩)
    (c_Smul : PySem.W.codeIn K cd_Smul "Sorter.__mul__" = true)
    (k_Smul : PySem.W.keepIn K (.ref fSmul) = true)
    (a_MI : PySem.W.findIn K (.ref CM) "__init__" = some (some (.ref fMI)))
    (i_MI : PySem.W.isFn K (.ref fMI) = true)
    (l_MI : K.lookup fMI = some ⟨oc_MI, od_MI, .func (PySem.W.fnOf "__init__" "Machine.__init__" (defArgs sMI) (defBody sMI) (defScope sMI) .none kV_MI dc_MI pm_MI an_MI cd_MI ct_MI), sl_MI⟩)
    (c_MI : PySem.W.codeIn K cd_MI "Machine.__init__" = true)
    (k_MI : PySem.W.keepIn K (.ref fMI) = true)
    (a_MC : PySem.W.findIn K (.ref CM) "__call__" = some (some (.ref fMC)))
    (i_MC : PySem.W.isFn K (.ref fMC) = true)
    (l_MC : K.lookup fMC = some ⟨oc_MC, od_MC, .func (PySem.W.fnOf "__call__" "Machine.__call__" (defArgs sMC) (defBody sMC) (defScope sMC) .none kV_MC dc_MC pm_MC an_MC cd_MC ct_MC), sl_MC⟩)
    (c_MC : PySem.W.codeIn K cd_MC "Machine.__call__" = true)
    (k_MC : PySem.W.keepIn K (.ref fMC) = true)
    (fi_MC : PySem.W.fnIn K fMC = true)
    (a_Mmul : PySem.W.findIn K (.ref CM) (PySem.dunder "mul") = some (some (.ref fMmul)))
    (i_Mmul : PySem.W.isFn K (.ref fMmul) = true)
    (l_Mmul : K.lookup fMmul = some ⟨oc_Mmul, od_Mmul, .func (PySem.W.fnOf "__mul__" "Machine.__mul__" (defArgs sMmul) (defBody sMmul) (defScope sMmul) .none kV_Mmul dc_Mmul pm_Mmul an_Mmul cd_Mmul ct_Mmul), sl_Mmul⟩)
    (c_Mmul : PySem.W.codeIn K cd_Mmul "Machine.__mul__" = true)
    (k_Mmul : PySem.W.keepIn K (.ref fMmul) = true)
    (a_Msort : PySem.W.findIn K (.ref CM) "sorter" = some (some (.ref fMsort)))
    (i_Msort : PySem.W.isFn K (.ref fMsort) = true)
    (l_Msort : K.lookup fMsort = some ⟨oc_Msort, od_Msort, .func (PySem.W.fnOf "sorter" "Machine.sorter" (defArgs sMsort) (defBody sMsort) (defScope sMsort) .none kV_Msort dc_Msort pm_Msort an_Msort cd_Msort ct_Msort), sl_Msort⟩)
    (c_Msort : PySem.W.codeIn K cd_Msort "Machine.sorter" = true)
    (k_Msort : PySem.W.keepIn K (.ref fMsort) = true)
    (sf_S : PySem.W.selfFirst K CS = true)
    (sf_M : PySem.W.selfFirst K CM = true)
    (rd_S : PySem.W.readsIn K CS (.type "type") = true)
    (ga_S : PySem.W.specialIn K (.ref CS) "__getattribute__" = some (some (.builtin "type.__getattribute__")))
    (rd_M : PySem.W.readsIn K CM (.type "type") = true)
    (ga_M : PySem.W.specialIn K (.ref CM) "__getattribute__" = some (some (.builtin "type.__getattribute__")))
    (a_Smod : PySem.W.findCls K (.ref CS) (.type "type") "modulo" = some (.get (.builtin "classmethod.__get__") (.ref pSmod) .none (.ref CS)))
    (r_Smod : PySem.W.recIn K pSmod "classmethod" = some (.ref fSmod :: rest_Smod))
    (fi_Smod : PySem.W.fnIn K fSmod = true)
    (l_Smod : K.lookup fSmod = some ⟨oc_Smod, od_Smod, .func (PySem.W.fnOf "modulo" "Sorter.modulo" (defArgs sSmod) (defBody sSmod) (defScope sSmod) .none kV_Smod dc_Smod pm_Smod an_Smod cd_Smod ct_Smod), sl_Smod⟩)
    (c_Smod : PySem.W.codeIn K cd_Smod "Sorter.modulo" = true)
    (k_Smod : PySem.W.keepIn K (.ref fSmod) = true)
    (a_Sdig : PySem.W.findCls K (.ref CS) (.type "type") "digits" = some (.get (.builtin "classmethod.__get__") (.ref pSdig) .none (.ref CS)))
    (r_Sdig : PySem.W.recIn K pSdig "classmethod" = some (.ref fSdig :: rest_Sdig))
    (fi_Sdig : PySem.W.fnIn K fSdig = true)
    (l_Sdig : K.lookup fSdig = some ⟨oc_Sdig, od_Sdig, .func (PySem.W.fnOf "digits" "Sorter.digits" (defArgs sSdig) (defBody sSdig) (defScope sSdig) .none (.ref kD) dc_Sdig pm_Sdig an_Sdig cd_Sdig ct_Sdig), sl_Sdig⟩)
    (c_Sdig : PySem.W.codeIn K cd_Sdig "Sorter.digits" = true)
    (k_Sdig : PySem.W.keepIn K (.ref fSdig) = true)
    (d_Sdig : PySem.W.nsIn K kD "after" = some (some (.int 0 tk_Sdig)))
    (g_MO : PySem.W.nsIn K mainGlobals "MODULO" = some (some (.str "modulo" tk_MO)))
    (g_DI : PySem.W.nsIn K mainGlobals "DIGITS" = some (some (.str "digits" tk_DI)))
    (a_Mlast : PySem.W.findCls K (.ref CM) (.type "type") "last" = some (.get (.builtin "staticmethod.__get__") (.ref pMlast) .none (.ref CM)))
    (r_Mlast : PySem.W.recIn K pMlast "staticmethod" = some (.ref fMlast :: rest_Mlast))
    (fi_Mlast : PySem.W.fnIn K fMlast = true)
    (l_Mlast : K.lookup fMlast = some ⟨oc_Mlast, od_Mlast, .func (PySem.W.fnOf "last" "Machine.last" (defArgs sMlast) (defBody sMlast) (defScope sMlast) .none kV_Mlast dc_Mlast pm_Mlast an_Mlast cd_Mlast ct_Mlast), sl_Mlast⟩)
    (c_Mlast : PySem.W.codeIn K cd_Mlast "Machine.last" = true)
    (k_Mlast : PySem.W.keepIn K (.ref fMlast) = true)
    (a_Mmod : PySem.W.findCls K (.ref CM) (.type "type") "modulo" = some (.get (.builtin "staticmethod.__get__") (.ref pMmod) .none (.ref CM)))
    (r_Mmod : PySem.W.recIn K pMmod "staticmethod" = some (.ref fMmod :: rest_Mmod))
    (fi_Mmod : PySem.W.fnIn K fMmod = true)
    (l_Mmod : K.lookup fMmod = some ⟨oc_Mmod, od_Mmod, .func (PySem.W.fnOf "modulo" "Machine.modulo" (defArgs sMmod) (defBody sMmod) (defScope sMmod) .none kV_Mmod dc_Mmod pm_Mmod an_Mmod (.ref cm) ct_Mmod), sl_Mmod⟩)
    (c_Mmod : PySem.W.codeIn K (.ref cm) "Machine.modulo" = true)
    (k_Mmod : PySem.W.keepIn K (.ref fMmod) = true)
    (ch : PySem.W.codeHdIn K cm tb = true)
    (nt : K.lookup tb = none)
    (a_Ld : PySem.W.nsIn K mainGlobals "last_digit" = some (some (.ref fLd)))
    (l_Ld : K.lookup fLd = some ⟨oc_Ld, od_Ld, .func (PySem.W.fnOf "last_digit" "last_digit" (defArgs sLd) (defBody sLd) (defScope sLd) .none kV_Ld dc_Ld pm_Ld an_Ld cd_Ld ct_Ld), sl_Ld⟩)
    (c_Ld : PySem.W.codeIn K cd_Ld "last_digit" = true)
    (k_Ld : PySem.W.keepIn K (.ref fLd) = true)
    (a_B1 : PySem.W.nsIn K mainGlobals "barring_one" = some (some (.ref fB1)))
    (l_B1 : K.lookup fB1 = some ⟨oc_B1, od_B1, .func (PySem.W.fnOf "barring_one" "barring_one" (defArgs sB1) (defBody sB1) (defScope sB1) .none kV_B1 dc_B1 pm_B1 an_B1 cd_B1 ct_B1), sl_B1⟩)
    (c_B1 : PySem.W.codeIn K cd_B1 "barring_one" = true)
    (k_B1 : PySem.W.keepIn K (.ref fB1) = true)
    (a_Bar : PySem.W.nsIn K mainGlobals "barring" = some (some (.ref fBar)))
    (l_Bar : K.lookup fBar = some ⟨oc_Bar, od_Bar, .func (PySem.W.fnOf "barring" "barring" (defArgs sBar) (defBody sBar) (defScope sBar) .none kV_Bar dc_Bar pm_Bar an_Bar cd_Bar ct_Bar), sl_Bar⟩)
    (c_Bar : PySem.W.codeIn K cd_Bar "barring" = true)
    (k_Bar : PySem.W.keepIn K (.ref fBar) = true)
    (a_Rch : PySem.W.nsIn K mainGlobals "reached_states" = some (some (.ref fRch)))
    (l_Rch : K.lookup fRch = some ⟨oc_Rch, od_Rch, .func (PySem.W.fnOf "reached_states" "reached_states" (defArgs sRch) (defBody sRch) (defScope sRch) .none kV_Rch dc_Rch pm_Rch an_Rch cd_Rch ct_Rch), sl_Rch⟩)
    (c_Rch : PySem.W.codeIn K cd_Rch "reached_states" = true)
    (k_Rch : PySem.W.keepIn K (.ref fRch) = true)
    (a_Exp : PySem.W.nsIn K mainGlobals "explored" = some (some (.ref fExp)))
    (l_Exp : K.lookup fExp = some ⟨oc_Exp, od_Exp, .func (PySem.W.fnOf "explored" "explored" (defArgs sExp) (defBody sExp) (defScope sExp) .none kV_Exp dc_Exp pm_Exp an_Exp cd_Exp ct_Exp), sl_Exp⟩)
    (c_Exp : PySem.W.codeIn K cd_Exp "explored" = true)
    (k_Exp : PySem.W.keepIn K (.ref fExp) = true)
    (a_Pst : PySem.W.nsIn K mainGlobals "paired_steps" = some (some (.ref fPst)))
    (l_Pst : K.lookup fPst = some ⟨oc_Pst, od_Pst, .func (PySem.W.fnOf "paired_steps" "paired_steps" (defArgs sPst) (defBody sPst) (defScope sPst) .none kV_Pst dc_Pst pm_Pst an_Pst cd_Pst ct_Pst), sl_Pst⟩)
    (c_Pst : PySem.W.codeIn K cd_Pst "paired_steps" = true)
    (k_Pst : PySem.W.keepIn K (.ref fPst) = true)
    (a_Deck : PySem.W.nsIn K mainGlobals "_law_deck" = some (some (.ref fDeck)))
    (l_Deck : K.lookup fDeck = some ⟨oc_Deck, od_Deck, .func (PySem.W.fnOf "_law_deck" "_law_deck" (defArgs sDeck) (defBody sDeck) (defScope sDeck) .none kV_Deck dc_Deck pm_Deck an_Deck cd_Deck ct_Deck), sl_Deck⟩)
    (c_Deck : PySem.W.codeIn K cd_Deck "_law_deck" = true)
    (k_Deck : PySem.W.keepIn K (.ref fDeck) = true)
    (a_Draw : PySem.W.nsIn K mainGlobals "_law_draw" = some (some (.ref fDraw)))
    (l_Draw : K.lookup fDraw = some ⟨oc_Draw, od_Draw, .func (PySem.W.fnOf "_law_draw" "_law_draw" (defArgs sDraw) (defBody sDraw) (defScope sDraw) .none kV_Draw dc_Draw pm_Draw an_Draw cd_Draw ct_Draw), sl_Draw⟩)
    (c_Draw : PySem.W.codeIn K cd_Draw "_law_draw" = true)
    (k_Draw : PySem.W.keepIn K (.ref fDraw) = true)
    (a_Pick : PySem.W.nsIn K mainGlobals "_law_pick" = some (some (.ref fPick)))
    (l_Pick : K.lookup fPick = some ⟨oc_Pick, od_Pick, .func (PySem.W.fnOf "_law_pick" "_law_pick" (defArgs sPick) (defBody sPick) (defScope sPick) .none kV_Pick dc_Pick pm_Pick an_Pick cd_Pick ct_Pick), sl_Pick⟩)
    (c_Pick : PySem.W.codeIn K cd_Pick "_law_pick" = true)
    (k_Pick : PySem.W.keepIn K (.ref fPick) = true)
    (a_Pow : PySem.W.nsIn K mainGlobals "_law_power" = some (some (.ref fPow)))
    (l_Pow : K.lookup fPow = some ⟨oc_Pow, od_Pow, .func (PySem.W.fnOf "_law_power" "_law_power" (defArgs sPow) (defBody sPow) (defScope sPow) .none kV_Pow dc_Pow pm_Pow an_Pow cd_Pow ct_Pow), sl_Pow⟩)
    (c_Pow : PySem.W.codeIn K cd_Pow "_law_power" = true)
    (k_Pow : PySem.W.keepIn K (.ref fPow) = true)
    (a_Num : PySem.W.nsIn K mainGlobals "_law_number" = some (some (.ref fNum)))
    (l_Num : K.lookup fNum = some ⟨oc_Num, od_Num, .func (PySem.W.fnOf "_law_number" "_law_number" (defArgs sNum) (defBody sNum) (defScope sNum) .none kV_Num dc_Num pm_Num an_Num cd_Num ct_Num), sl_Num⟩)
    (c_Num : PySem.W.codeIn K cd_Num "_law_number" = true)
    (k_Num : PySem.W.keepIn K (.ref fNum) = true)
    (a_Alike : PySem.W.nsIn K mainGlobals "_law_are_alike" = some (some (.ref fAlike)))
    (l_Alike : K.lookup fAlike = some ⟨oc_Alike, od_Alike, .func (PySem.W.fnOf "_law_are_alike" "_law_are_alike" (defArgs sAlike) (defBody sAlike) (defScope sAlike) .none kV_Alike dc_Alike pm_Alike an_Alike cd_Alike ct_Alike), sl_Alike⟩)
    (c_Alike : PySem.W.codeIn K cd_Alike "_law_are_alike" = true)
    (k_Alike : PySem.W.keepIn K (.ref fAlike) = true)
    (a_Bound : PySem.W.nsIn K mainGlobals "_law_bound_right" = some (some (.ref fBound)))
    (l_Bound : K.lookup fBound = some ⟨oc_Bound, od_Bound, .func (PySem.W.fnOf "_law_bound_right" "_law_bound_right" (defArgs sBound) (defBody sBound) (defScope sBound) .none kV_Bound dc_Bound pm_Bound an_Bound cd_Bound ct_Bound), sl_Bound⟩)
    (c_Bound : PySem.W.codeIn K cd_Bound "_law_bound_right" = true)
    (k_Bound : PySem.W.keepIn K (.ref fBound) = true)
    (a_Right : PySem.W.nsIn K mainGlobals "_law_right" = some (some (.ref fRight)))
    (l_Right : K.lookup fRight = some ⟨oc_Right, od_Right, .func (PySem.W.fnOf "_law_right" "_law_right" (defArgs sRight) (defBody sRight) (defScope sRight) .none kV_Right dc_Right pm_Right an_Right cd_Right ct_Right), sl_Right⟩)
    (c_Right : PySem.W.codeIn K cd_Right "_law_right" = true)
    (k_Right : PySem.W.keepIn K (.ref fRight) = true)
    (a_Law : PySem.W.nsIn K mainGlobals "law" = some (some (.ref fLaw)))
    (l_Law : K.lookup fLaw = some ⟨oc_Law, od_Law, .func (PySem.W.fnOf "law" "law" (defArgs sLaw) (defBody sLaw) (defScope sLaw) .none kV_Law dc_Law pm_Law an_Law cd_Law ct_Law), sl_Law⟩)
    (c_Law : PySem.W.codeIn K cd_Law "law" = true)
    (k_Law : PySem.W.keepIn K (.ref fLaw) = true)
    : ∃ cm, K.lookup tb = none ∧ PySem.W.CodeHd h cm tb ∧ ∀ base : Heap, K.In base → base.Ns mainGlobals mg → LamX.TabB base mg cm tb → FnS P w K mg base 8 fa GA (spLaw K tb) := by
  have e : fa = fLaw := by
    have e := hfa.symm.trans (PySem.W.mg_of X G a_Law)
    cases e
    rfl
  rw [e]
  have mo : ∀ {x : Str} {v : Value}, PySem.W.nsIn K mainGlobals x = some (some v) → mg x = some v := fun q => PySem.W.mg_of X G q
  have mn : ∀ {x : Str}, PySem.W.nsIn K mainGlobals x = some none → mg x = none := fun q => PySem.W.mg_none_of X G q
  have DRI : Df K "__init__" "Remainder.__init__" sRI fRI := ⟨_, fun_mk (st := sRI) l_RI c_RI k_RI⟩
  have DRC : Df K "__call__" "Remainder.__call__" sRC fRC := ⟨_, fun_mk (st := sRC) l_RC c_RC k_RC⟩
  have DLI : Df K "__init__" "LastDigit.__init__" sLI fLI := ⟨_, fun_mk (st := sLI) l_LI c_LI k_LI⟩
  have DLC : Df K "__call__" "LastDigit.__call__" sLC fLC := ⟨_, fun_mk (st := sLC) l_LC c_LC k_LC⟩
  have DPI : Df K "__init__" "Pairing.__init__" sPI fPI := ⟨_, fun_mk (st := sPI) l_PI c_PI k_PI⟩
  have DPC : Df K "__call__" "Pairing.__call__" sPC fPC := ⟨_, fun_mk (st := sPC) l_PC c_PC k_PC⟩
  have DSI : Df K "__init__" "Sorter.__init__" sSI fSI := ⟨_, fun_mk (st := sSI) l_SI c_SI k_SI⟩
  have DSC : Df K "__call__" "Sorter.__call__" sSC fSC := ⟨_, fun_mk (st := sSC) l_SC c_SC k_SC⟩
  have DSmul : Df K "__mul__" "Sorter.__mul__" sSmul fSmul := ⟨_, fun_mk (st := sSmul) l_Smul c_Smul k_Smul⟩
  have DMI : Df K "__init__" "Machine.__init__" sMI fMI := ⟨_, fun_mk (st := sMI) l_MI c_MI k_MI⟩
  have DMC : Df K "__call__" "Machine.__call__" sMC fMC := ⟨_, fun_mk (st := sMC) l_MC c_MC k_MC⟩
  have DMmul : Df K "__mul__" "Machine.__mul__" sMmul fMmul := ⟨_, fun_mk (st := sMmul) l_Mmul c_Mmul k_Mmul⟩
  have DMsort : Df K "sorter" "Machine.sorter" sMsort fMsort := ⟨_, fun_mk (st := sMsort) l_Msort c_Msort k_Msort⟩
  have DSmod : Df K "modulo" "Sorter.modulo" sSmod fSmod := ⟨_, fun_mk (st := sSmod) l_Smod c_Smod k_Smod⟩
  have DMlast : Df K "last" "Machine.last" sMlast fMlast := ⟨_, fun_mk (st := sMlast) l_Mlast c_Mlast k_Mlast⟩
  have DLd : Df K "last_digit" "last_digit" sLd fLd := ⟨_, fun_mk (st := sLd) l_Ld c_Ld k_Ld⟩
  have DB1 : Df K "barring_one" "barring_one" sB1 fB1 := ⟨_, fun_mk (st := sB1) l_B1 c_B1 k_B1⟩
  have DBar : Df K "barring" "barring" sBar fBar := ⟨_, fun_mk (st := sBar) l_Bar c_Bar k_Bar⟩
  have DRch : Df K "reached_states" "reached_states" sRch fRch := ⟨_, fun_mk (st := sRch) l_Rch c_Rch k_Rch⟩
  have DExp : Df K "explored" "explored" sExp fExp := ⟨_, fun_mk (st := sExp) l_Exp c_Exp k_Exp⟩
  have DPst : Df K "paired_steps" "paired_steps" sPst fPst := ⟨_, fun_mk (st := sPst) l_Pst c_Pst k_Pst⟩
  have DDeck : Df K "_law_deck" "_law_deck" sDeck fDeck := ⟨_, fun_mk (st := sDeck) l_Deck c_Deck k_Deck⟩
  have DDraw : Df K "_law_draw" "_law_draw" sDraw fDraw := ⟨_, fun_mk (st := sDraw) l_Draw c_Draw k_Draw⟩
  have DPick : Df K "_law_pick" "_law_pick" sPick fPick := ⟨_, fun_mk (st := sPick) l_Pick c_Pick k_Pick⟩
  have DPow : Df K "_law_power" "_law_power" sPow fPow := ⟨_, fun_mk (st := sPow) l_Pow c_Pow k_Pow⟩
  have DNum : Df K "_law_number" "_law_number" sNum fNum := ⟨_, fun_mk (st := sNum) l_Num c_Num k_Num⟩
  have DAlike : Df K "_law_are_alike" "_law_are_alike" sAlike fAlike := ⟨_, fun_mk (st := sAlike) l_Alike c_Alike k_Alike⟩
  have DBound : Df K "_law_bound_right" "_law_bound_right" sBound fBound := ⟨_, fun_mk (st := sBound) l_Bound c_Bound k_Bound⟩
  have DRight : Df K "_law_right" "_law_right" sRight fRight := ⟨_, fun_mk (st := sRight) l_Right c_Right k_Right⟩
  have DLaw : Df K "law" "law" sLaw fLaw := ⟨_, fun_mk (st := sLaw) l_Law c_Law k_Law⟩
  have B : TB mg := ⟨mn z_len, mn z_sorted, mn z_range, mn z_tuple, mn z_zip, mn z_list, mn z_int, mn z_repr, mn z_max⟩
  let c : CC := ⟨CR, CL, CP, CS, CM⟩
  have T : TS K mg c := ⟨⟨pgR, hdR, poR, saR⟩, nR_modulus, ⟨pgL, hdL, poL, saL⟩, nL_prime, nL_after, ⟨pgP, hdP, poP, saP⟩, nP_first_sorter, nP_second_sorter, ⟨pgS, hdS, poS, saS⟩, nS_boxes, nS_rule, ⟨pgM, hdM, poM, saM⟩, nM_base, nM_steps, nM_boxes, nM_many, mn z_max, mo gR, mo gL, mo gP, mo gS, mo gM⟩
  have R : TR K mg c fRC fLC fMC fLd fPC fSC := ⟨⟨a_RC, i_RC, fi_RC⟩, ⟨a_LC, i_LC, fi_LC⟩, ⟨a_MC, i_MC, fi_MC⟩, ⟨a_PC, i_PC, fi_PC⟩, ⟨a_SC, i_SC, fi_SC⟩, DRC, DLC, DMC, DPC, DSC, DLd, mo a_Ld⟩
  have M : TM K c fRI fLI fPI fSI := ⟨⟨mkR, a_RI, i_RI, kcR⟩, ⟨mkL, a_LI, i_LI, kcL⟩, ⟨mkP, a_PI, i_PI, kcP⟩, ⟨mkS, a_SI, i_SI, kcS⟩, DRI, DLI, DPI, DSI⟩
  have C : TC K mg c pSmod fSmod pSdig fSdig (.type "type") := ⟨⟨rd_S, ga_S⟩, ⟨a_Smod, ⟨_, r_Smod⟩, fi_Smod⟩, ⟨a_Sdig, ⟨_, r_Sdig⟩, fi_Sdig⟩, DSmod, ⟨_, ⟨⟨_, _, _, _, _, _, _, _, _, _, rfl, l_Sdig, c_Sdig, .inl ⟨rfl, rfl⟩, .inr ⟨kD, rfl, fun q hq => by
    rw [List.mem_singleton] at hq
    subst hq
    exact ⟨_, d_Sdig, _, rfl⟩⟩⟩, k_Sdig⟩⟩, ⟨_, mo g_MO⟩, ⟨_, mo g_DI⟩⟩
  have U : TU K c fSmul := ⟨sf_S, a_Smul, i_Smul, DSmul⟩
  have MA : TMa K mg c fMI fRch fPst := ⟨⟨mkM, a_MI, i_MI, kcM⟩, DMI, DRch, mo a_Rch, DPst, mo a_Pst⟩
  have TD' : TD K mg fDraw fPick fPow fNum := ⟨DDraw, mo a_Draw, DPick, mo a_Pick, DPow, mo a_Pow, DNum, mo a_Num⟩
  have N : TN K mg c fMmul fMsort pMlast fMlast pMmod fMmod cm fExp (.type "type") := ⟨sf_M, a_Mmul, i_Mmul, DMmul, ⟨a_Msort, i_Msort, k_Msort⟩, DMsort, ⟨rd_M, ga_M⟩, ⟨a_Mlast, ⟨_, r_Mlast⟩, k_Mlast⟩, DMlast, ⟨a_Mmod, ⟨_, r_Mmod⟩, k_Mmod⟩, ⟨k_Mmod, _, _, _, _, _, _, _, _, l_Mmod, c_Mmod⟩, DExp, mo a_Exp⟩
  have Z : TZ K mg fB1 fBar fAlike fBound := ⟨DB1, mo a_B1, DBar, mo a_Bar, DAlike, mo a_Alike, DBound, mo a_Bound⟩
  refine ⟨cm, nt, PySem.W.codeHd_of_K X ch, fun base _ _ TBl => ?_⟩
  exact ok_Law B DDeck (mo a_Deck) DRight (mo a_Right) (ok_Right B T R M C U MA TD' N Z TBl DRight) DLaw
theorem walk {l : PySem.W.OpenLaw} {q : Program} {loose : List Str} {XP : (Str → Option Value) → Heap → Prop} {YP : World → Heap → Prop} {d : DefRec} {K : Params → PySem.W.Frag} {tb : Addr} (hn : l.most = some 63) (hdf : d.params.defaults = [])
    (hY : ∀ (w : World) (h : Heap), YP w h → (K w.params).In h) (hP : ∀ (w : World) (h : Heap), YP w h → h.get? tb = some { cls := .none, data := .fields #[] })
    (F : ∀ (w : World) (mg : Str → Option Value) (fa : Addr) (h : Heap), (K w.params).In h → h.get? tb = some { cls := .none, data := .fields #[] } → h.Ns mainGlobals mg → mg d.name = some (.ref fa) →
      ∃ cm, (K w.params).lookup tb = none ∧ PySem.W.CodeHd h cm tb ∧ ∀ base : Heap, (K w.params).In base → base.Ns mainGlobals mg → LamX.TabB base mg cm tb → FnS l.prog w (K w.params) mg base 8 fa GA (spLaw (K w.params) tb)) :
    PySem.W.WalkO q loose XP YP l.row.toRowW d [] (fun f vs => PySem.call f vs) := by
  refine Att.attach_callB hn hdf fun w s₀ s₁ mg mb fa o pm cd doc a vs ns G Y ho hd hcd hmg hobj hints hlen hbits hg => ?_
  have KX := hY w _ Y
  obtain ⟨cm, nT, C, hF⟩ := F w mg fa _ KX (hP w _ Y) G.T.g hmg
  exact law_callS KX G.T.g G.T.b G.T.builtins G.T.nolimit hg (hP w _ Y) nT C G.T.bmain hobj hints (Nat.le_trans hlen (by decide)) ⟨rfl, by decide, by decide⟩ hF fun H hH hS => ⟨a, ns, rfl, hS, hlen, NdefX.TabN.nil hH, fun _ => rfl⟩
end Wb


open PySem PySem.W PyProof.Rows in
set_option maxRecDepth 100000 in
set_option maxHeartbeats 0 in
theorem PySem.Challenge.cw_whateverboxes_k79_whole_sorters_and_mach_holds : PySem.Challenge.rw_whateverboxes_k79_whole_sorters_and_mach.Holds := by
  w_on; o_law; k_head; (case hw => w_witness2)
  k_fill
  refine Wb.walk (tb := 266) (l := PySem.Challenge.rw_whateverboxes_k79_whole_sorters_and_mach) rfl rfl (fun w h Y => PySem.W.km_in_of Y) (fun w h Y => PySem.W.km_tabs_of Y 266 (List.mem_singleton.mpr rfl)) ?F
  case F =>
    intro w mg fa h KX hT G hmg
    refine' Wb.all_mk KX G hmg hT ?gR ?gL ?gP ?gS ?gM ?pgR ?hdR ?poR ?saR ?mkR ?kcR ?pgL ?hdL ?poL ?saL ?mkL ?kcL ?pgP ?hdP ?poP ?saP ?mkP ?kcP ?pgS ?hdS ?poS ?saS ?mkS ?kcS ?pgM ?hdM ?poM ?saM ?mkM ?kcM ?nR_modulus ?nL_prime ?nL_after ?nP_first_sorter ?nP_second_sorter ?nS_boxes ?nS_rule ?nM_base ?nM_steps ?nM_boxes ?nM_many ?z_len ?z_sorted ?z_range ?z_tuple ?z_zip ?z_list ?z_int ?z_repr ?z_max ?a_RI ?i_RI ?l_RI ?c_RI ?k_RI ?a_RC ?i_RC ?l_RC ?c_RC ?k_RC ?fi_RC ?a_LI ?i_LI ?l_LI ?c_LI ?k_LI ?a_LC ?i_LC ?l_LC ?c_LC ?k_LC ?fi_LC ?a_PI ?i_PI ?l_PI ?c_PI ?k_PI ?a_PC ?i_PC ?l_PC ?c_PC ?k_PC ?fi_PC ?a_SI ?i_SI ?l_SI ?c_SI ?k_SI ?a_SC ?i_SC ?l_SC ?c_SC ?k_SC ?fi_SC ?a_Smul ?i_Smul ?l_Smul ?c_Smul ?k_Smul ?a_MI ?i_MI ?l_MI ?c_MI ?k_MI ?a_MC ?i_MC ?l_MC ?c_MC ?k_MC ?fi_MC ?a_Mmul ?i_Mmul ?l_Mmul ?c_Mmul ?k_Mmul ?a_Msort ?i_Msort ?l_Msort ?c_Msort ?k_Msort ?sf_S ?sf_M ?rd_S ?ga_S ?rd_M ?ga_M ?a_Smod ?r_Smod ?fi_Smod ?l_Smod ?c_Smod ?k_Smod ?a_Sdig ?r_Sdig ?fi_Sdig ?l_Sdig ?c_Sdig ?k_Sdig ?d_Sdig ?g_MO ?g_DI ?a_Mlast ?r_Mlast ?fi_Mlast ?l_Mlast ?c_Mlast ?k_Mlast ?a_Mmod ?r_Mmod ?fi_Mmod ?l_Mmod ?c_Mmod ?k_Mmod ?ch ?nt ?a_Ld ?l_Ld ?c_Ld ?k_Ld ?a_B1 ?l_B1 ?c_B1 ?k_B1 ?a_Bar ?l_Bar ?c_Bar ?k_Bar ?a_Rch ?l_Rch ?c_Rch ?k_Rch ?a_Exp ?l_Exp ?c_Exp ?k_Exp ?a_Pst ?l_Pst ?c_Pst ?k_Pst ?a_Deck ?l_Deck ?c_Deck ?k_Deck ?a_Draw ?l_Draw ?c_Draw ?k_Draw ?a_Pick ?l_Pick ?c_Pick ?k_Pick ?a_Pow ?l_Pow ?c_Pow ?k_Pow ?a_Num ?l_Num ?c_Num ?k_Num ?a_Alike ?l_Alike ?c_Alike ?k_Alike ?a_Bound ?l_Bound ?c_Bound ?k_Bound ?a_Right ?l_Right ?c_Right ?k_Right ?a_Law ?l_Law ?c_Law ?k_Law
    (case gR => k_is)
    (case gL => k_is)
    (case gP => k_is)
    (case gS => k_is)
    (case gM => k_is)
    (case pgR => k_is)
    (case hdR => k_is)
    (case poR => k_is)
    (case saR => k_is)
    (case mkR => k_is)
    (case kcR => k_is)
    (case pgL => k_is)
    (case hdL => k_is)
    (case poL => k_is)
    (case saL => k_is)
    (case mkL => k_is)
    (case kcL => k_is)
    (case pgP => k_is)
    (case hdP => k_is)
    (case poP => k_is)
    (case saP => k_is)
    (case mkP => k_is)
    (case kcP => k_is)
    (case pgS => k_is)
    (case hdS => k_is)
    (case poS => k_is)
    (case saS => k_is)
    (case mkS => k_is)
    (case kcS => k_is)
    (case pgM => k_is)
    (case hdM => k_is)
    (case poM => k_is)
    (case saM => k_is)
    (case mkM => k_is)
    (case kcM => k_is)
    (case nR_modulus => k_is)
    (case nL_prime => k_is)
    (case nL_after => k_is)
    (case nP_first_sorter => k_is)
    (case nP_second_sorter => k_is)
    (case nS_boxes => k_is)
    (case nS_rule => k_is)
    (case nM_base => k_is)
    (case nM_steps => k_is)
    (case nM_boxes => k_is)
    (case nM_many => k_is)
    (case z_len => k_is)
    (case z_sorted => k_is)
    (case z_range => k_is)
    (case z_tuple => k_is)
    (case z_zip => k_is)
    (case z_list => k_is)
    (case z_int => k_is)
    (case z_repr => k_is)
    (case z_max => k_is)
    (case a_RI => k_is)
    (case i_RI => k_is)
    (case l_RI => k_is)
    (case c_RI => k_is)
    (case k_RI => k_is)
    (case a_RC => k_is)
    (case i_RC => k_is)
    (case l_RC => k_is)
    (case c_RC => k_is)
    (case k_RC => k_is)
    (case fi_RC => k_is)
    (case a_LI => k_is)
    (case i_LI => k_is)
    (case l_LI => k_is)
    (case c_LI => k_is)
    (case k_LI => k_is)
    (case a_LC => k_is)
    (case i_LC => k_is)
    (case l_LC => k_is)
    (case c_LC => k_is)
    (case k_LC => k_is)
    (case fi_LC => k_is)
    (case a_PI => k_is)
    (case i_PI => k_is)
    (case l_PI => k_is)
    (case c_PI => k_is)
    (case k_PI => k_is)
    (case a_PC => k_is)
    (case i_PC => k_is)
    (case l_PC => k_is)
    (case c_PC => k_is)
    (case k_PC => k_is)
    (case fi_PC => k_is)
    (case a_SI => k_is)
    (case i_SI => k_is)
    (case l_SI => k_is)
    (case c_SI => k_is)
    (case k_SI => k_is)
    (case a_SC => k_is)
    (case i_SC => k_is)
    (case l_SC => k_is)
    (case c_SC => k_is)
    (case k_SC => k_is)
    (case fi_SC => k_is)
    (case a_Smul => k_is)
    (case i_Smul => k_is)
    (case l_Smul => k_is)
    (case c_Smul => k_is)
    (case k_Smul => k_is)
    (case a_MI => k_is)
    (case i_MI => k_is)
    (case l_MI => k_is)
    (case c_MI => k_is)
    (case k_MI => k_is)
    (case a_MC => k_is)
    (case i_MC => k_is)
    (case l_MC => k_is)
    (case c_MC => k_is)
    (case k_MC => k_is)
    (case fi_MC => k_is)
    (case a_Mmul => k_is)
    (case i_Mmul => k_is)
    (case l_Mmul => k_is)
    (case c_Mmul => k_is)
    (case k_Mmul => k_is)
    (case a_Msort => k_is)
    (case i_Msort => k_is)
    (case l_Msort => k_is)
    (case c_Msort => k_is)
    (case k_Msort => k_is)
    (case sf_S => k_is)
    (case sf_M => k_is)
    (case rd_S => k_is)
    (case ga_S => k_is)
    (case rd_M => k_is)
    (case ga_M => k_is)
    (case a_Smod => k_is)
    (case r_Smod => k_is)
    (case fi_Smod => k_is)
    (case l_Smod => k_is)
    (case c_Smod => k_is)
    (case k_Smod => k_is)
    (case a_Sdig => k_is)
    (case r_Sdig => k_is)
    (case fi_Sdig => k_is)
    (case l_Sdig => k_is)
    (case c_Sdig => k_is)
    (case k_Sdig => k_is)
    (case d_Sdig => k_is)
    (case g_MO => k_is)
    (case g_DI => k_is)
    (case a_Mlast => k_is)
    (case r_Mlast => k_is)
    (case fi_Mlast => k_is)
    (case l_Mlast => k_is)
    (case c_Mlast => k_is)
    (case k_Mlast => k_is)
    (case a_Mmod => k_is)
    (case r_Mmod => k_is)
    (case fi_Mmod => k_is)
    (case l_Mmod => k_is)
    (case c_Mmod => k_is)
    (case k_Mmod => k_is)
    (case ch => kernel_rfl)
    (case nt => kernel_rfl)
    (case a_Ld => k_is)
    (case l_Ld => k_is)
    (case c_Ld => k_is)
    (case k_Ld => k_is)
    (case a_B1 => k_is)
    (case l_B1 => k_is)
    (case c_B1 => k_is)
    (case k_B1 => k_is)
    (case a_Bar => k_is)
    (case l_Bar => k_is)
    (case c_Bar => k_is)
    (case k_Bar => k_is)
    (case a_Rch => k_is)
    (case l_Rch => k_is)
    (case c_Rch => k_is)
    (case k_Rch => k_is)
    (case a_Exp => k_is)
    (case l_Exp => k_is)
    (case c_Exp => k_is)
    (case k_Exp => k_is)
    (case a_Pst => k_is)
    (case l_Pst => k_is)
    (case c_Pst => k_is)
    (case k_Pst => k_is)
    (case a_Deck => k_is)
    (case l_Deck => k_is)
    (case c_Deck => k_is)
    (case k_Deck => k_is)
    (case a_Draw => k_is)
    (case l_Draw => k_is)
    (case c_Draw => k_is)
    (case k_Draw => k_is)
    (case a_Pick => k_is)
    (case l_Pick => k_is)
    (case c_Pick => k_is)
    (case k_Pick => k_is)
    (case a_Pow => k_is)
    (case l_Pow => k_is)
    (case c_Pow => k_is)
    (case k_Pow => k_is)
    (case a_Num => k_is)
    (case l_Num => k_is)
    (case c_Num => k_is)
    (case k_Num => k_is)
    (case a_Alike => k_is)
    (case l_Alike => k_is)
    (case c_Alike => k_is)
    (case k_Alike => k_is)
    (case a_Bound => k_is)
    (case l_Bound => k_is)
    (case c_Bound => k_is)
    (case k_Bound => k_is)
    (case a_Right => k_is)
    (case l_Right => k_is)
    (case c_Right => k_is)
    (case k_Right => k_is)
    (case a_Law => k_is)
    (case l_Law => k_is)
    (case c_Law => k_is)
    (case k_Law => k_is)
#print axioms PySem.Challenge.cw_whateverboxes_k79_whole_sorters_and_mach_holds
